import PyProof.Rows.All
import Wide.All
import OpenK.AllK
import Wide.FinOn
import KE.KStateDown
import Lean
import HandS.ForMost
import HandS.More
import HandS.Exc
import HandS.WordsExc
import HandS.Defaults
import HandS.Wide
import HandS.Style
import HandS.DictComp
import HandS.Head0
import HandS.Head1
import HandS.Head2
import HandS.HeadEnd
import HandS.HeadHook1
import HandS.HeadHook2
import HandS.Lambda
import HandS.ExcInit
import HandS.ExcValue
import HandS.TupAny
import HandS.TupMul
import HandS.IsInst
import PyProof.DictUpdate
import HandS.StrMore
import KE.KUnpackStar
import KE.GoesMore
import KE.GoesEnum
import HandS.RaiseMore
import HandS.EndBits
import HandS.HeadHook3
import HandS.HeadHook4
import KE.GoesEnumKw
import HandS.NoneIn
import HandS.SetKeys
import HandS.SetBool
import HandS.Text
import HandS.Strs
import HandS.TupLe
import PyProof.EqAt
import PyProof.ReprRoads
import HandS.ExcIs
import HandS.ExcField
import HandS.ClsMeth
import KE.KExcIs
import HandS.Deep
import PyProof.AutoSeq1
import KE.KDictZip
import KE.KEqNest
import PyProof.NeKinds
import KE.KAssignIn
import HandS.MakeKwOnly
import HandS.OwnEq
import HandS.New0
import PyProof.InstNe
import HandS.WideBits
import HandS.ExcOwn
import KE.DataFind
import PyProof.ReprNest
import HandS.FStr
import HandS.TryMany
import KE.KCallOwn
import KE.KFmtOwn
import PyProof.ReprDict
import HandS.Flow
import PyProof.SliceStr2
import KE.DataCmp
import PyProof.ListNew
import HandS.RevTup
import HandS.Rev
import HandS.Replace
import HandS.ReplaceLit
import HandS.ReplaceDef
import KE.KDictPairs
import KE.SortData
import HandS.Keys
import HandS.Conv
import HandS.DictTup
import PyProof.Transfer
import PySem.Challenge.RW_pointhouse_k28_sums
set_option Elab.async false
set_option linter.all false
set_option maxRecDepth 100000
set_option maxHeartbeats 4000000
namespace Ly
open PySem PySem.Spec PyProof.Rows L2
inductive D where
  | non | bl (b : Bool) | int (i : Int) | str (x : Str) | ty (n : String) | adr (a : Addr)
  | tup (ds : List D) | ftu (ds : List D) | lst (ds : List D) | scr (ds : List D) | dic (kvs : List (Key × D)) | obj (c : Str) (fs : List (Str × D))
  | ref (n : Nat)
inductive Cell where
  | lst (ds : List D) | dic (kvs : List (Key × D)) | obj (c : Str) (fs : List (Str × D)) | dct (ks : List (List Key)) (ds : List D) | fn | xc (x : Str)
abbrev Mem := List Cell
abbrev Env := List (Option D)
theorem nodup_at {α : Type} {N : List α} (hN : N.Nodup) {i j : Nat} {x : α} (a : N[i]? = some x) (b : N[j]? = some x) : i = j := by
  obtain ⟨h1, e1⟩ := List.getElem?_eq_some_iff.mp a
  obtain ⟨h2, e2⟩ := List.getElem?_eq_some_iff.mp b
  exact (List.getElem_inj hN).mp (e1.trans e2.symm)
structure Wd where
  l : List Addr
  z : List Addr
def Out (L : Wd) (a : Addr) : Prop := a ∉ L.l ∧ a ∉ L.z
def Wd.add (L : Wd) (p : Addr) : Wd := ⟨L.l ++ [p], L.z⟩
def Wd.hide (L : Wd) (p : Addr) : Wd := ⟨L.l, p :: L.z⟩
theorem out_ne {L : Wd} {p a : Addr} (h : Out (L.hide p) a) : a ≠ p := fun z => h.2 (by rw [z]; exact List.mem_cons_self)
def KTup (K : PySem.W.Frag) (a : Addr) (xs : List V) : Prop := ∃ (o : Obj) (its : Array Value) (n : Nat), K.lookup a = some o ∧ o.cls = .type "tuple" ∧ o.data = .seq its n ∧ its.size ≤ sizeLine ∧ Vals xs its.toList
def KLst (K : PySem.W.Frag) (a : Addr) (xs : List V) : Prop := ∃ (o : Obj) (its : Array Value) (n : Nat), K.lookup a = some o ∧ o.cls = .type "list" ∧ o.dict = none ∧ o.data = .seq its n ∧ its.size ≤ sizeLine ∧ Vals xs its.toList
section
variable (K : PySem.W.Frag) (L : Wd) (H : Hp)
mutual
inductive Is : D → V → Prop
  | non : Is .non .non
  | bl (b : Bool) : Is (.bl b) (.bl b)
  | int (i : Int) : Is (.int i) (.int i)
  | str (x : Str) : Is (.str x) (.str x)
  | ty (n : String) : Is (.ty n) (.ty n)
  | adr (a : Addr) : Is (.adr a) (.ref a)
  | tup {ds : List D} {a : Addr} {vs : List V} : H a = some (.tup vs) → Out L a → IsL ds vs → Is (.tup ds) (.ref a)
  | tupK {ds : List D} {a : Addr} {vs : List V} : KTup K a vs → IsL ds vs → Is (.tup ds) (.ref a)
  | ftu {ds : List D} {a : Addr} {vs : List V} {o : Obj} : H a = some (.frz o (.tup vs)) → o.dict = none → Out L a → IsL ds vs → Is (.ftu ds) (.ref a)
  | lst {ds : List D} {a : Addr} {vs : List V} : H a = some (.lst vs) → Out L a → IsL ds vs → Is (.lst ds) (.ref a)
  | scr {ds : List D} {a : Addr} {vs : List V} : Rd H a (.lst vs) → Out L a → IsL ds vs → Is (.scr ds) (.ref a)
  | scrK {ds : List D} {a : Addr} {vs : List V} : KLst K a vs → IsL ds vs → Is (.scr ds) (.ref a)
  | dic {kvs : List (Key × D)} {a : Addr} {kws : List (Key × V)} : H a = some (.dK kws) → Out L a → IsKV kvs kws → Is (.dic kvs) (.ref a)
  | obj {c : Str} {fs : List (Str × D)} {a dx : Addr} {gs : List (Str × V)} : H a = some (.ins (He.ga K c) dx gs) → Out L a → IsFs fs gs → Is (.obj c fs) (.ref a)
  | ref {n : Nat} {a : Addr} : L.l[n]? = some a → Is (.ref n) (.ref a)
inductive IsL : List D → List V → Prop
  | nil : IsL [] []
  | cons {d : D} {v : V} {ds : List D} {vs : List V} : Is d v → IsL ds vs → IsL (d :: ds) (v :: vs)
inductive IsKV : List (Key × D) → List (Key × V) → Prop
  | nil : IsKV [] []
  | cons {k : Key} {d : D} {v : V} {ds : List (Key × D)} {vs : List (Key × V)} : Is d v → IsKV ds vs → IsKV ((k, d) :: ds) ((k, v) :: vs)
inductive IsFs : List (Str × D) → List (Str × V) → Prop
  | nil : IsFs [] []
  | cons {k : Str} {d : D} {v : V} {ds : List (Str × D)} {vs : List (Str × V)} : Is d v → IsFs ds vs → IsFs ((k, d) :: ds) ((k, v) :: vs)
end
def FnO (a : Addr) (fd : FuncData) : HO := .ext fun h => ∃ o : Obj, h.get? a = some o ∧ o.data = .func fd
def CellIs : Cell → Addr → Prop
  | .lst ds, a => ∃ vs, H a = some (.lst vs) ∧ IsL K L H ds vs
  | .dic kvs, a => ∃ kws, H a = some (.dK kws) ∧ IsKV K L H kvs kws
  | .obj c fs, a => ∃ dx gs, H a = some (.ins (He.ga K c) dx gs) ∧ IsFs K L H fs gs
  | .dct ks ds, a => ∃ vs, H a = some (.dT (ks.zip vs)) ∧ ks.length = ds.length ∧ IsL K L H ds vs
  | .fn, a => ∃ fd, H a = some (FnO a fd)
  | .xc x, a => H a = some (ExO (.ref (He.ga K x)) a) ∨ ∃ dx gs, H a = some (exo a (He.ga K x) (some dx)) ∧ H dx = some (exd dx gs) ∧ Out L dx
def lamDefs : List Str := ["drawn"]
def tabK (x : Str) : Option Addr := match K.lookup (He.ga K x) with
  | some ⟨_, _, .func fd, _⟩ => (match fd.code with
    | Value.ref c => (match K.lookup c with
      | some ⟨_, _, .fields vs, _⟩ => (match vs[11]? with
        | some (Value.ref P) => some P
        | _ => none)
      | _ => none)
    | _ => none)
  | _ => none
def TabO (P : Addr) (q : Str) : Prop := ∃ ps : Array Value, H P = some (.tbl ps) ∧ TriplesOk ps.toList ∧ Out L P ∧ ∀ (pos : Pos) (cv : Value), codeAmong pos ps.toList = some cv → ∃ c, cv = .ref c ∧ H c = some (LamX.CodeO c q) ∧ Out L c
def TabsO : Prop := ∀ x ∈ lamDefs, ∀ P, tabK K x = some P → TabO L H P (x ++ ".<locals>." ++ "<lambda>")
def NTup (o : HO) : Prop := ∀ vs, o ≠ .tup vs
structure MemIs (M : Mem) : Prop where
  len : L.l.length = M.length
  nd : L.l.Nodup
  cell : ∀ (n : Nat) a c, L.l[n]? = some a → M[n]? = some c → CellIs K L H c a
  hid : ∀ a ∈ L.z, a ∉ L.l ∧ ∃ o, H a = some o ∧ NTup o
  tab : TabsO K L H
structure EnvIs (env : Env) (σ : L2.St) : Prop where
  len : env.length = σ.length
  at_ : ∀ (i : Nat) d, env[i]? = some (some d) → ∃ v, σ[i]? = some (some v) ∧ Is K L H d v
end
structure Step (L : Wd) (H : Hp) (L' : Wd) (H' : Hp) : Prop where
  more : ∃ l, L'.l = L.l ++ l
  same : L'.z = L.z
  hid : ∀ a ∈ L.z, H' a = H a
  keep : ∀ a o (_ : H a = some o) (_ : Out L a) (_ : ∀ ps, o ≠ .tbl ps := by exact fun _ => nofun), H' a = some o ∧ Out L' a
structure Mv (L : Wd) (H : Hp) (L' : Wd) (H' : Hp) : Prop where
  get : ∀ (n : Nat) a, L.l[n]? = some a → L'.l[n]? = some a
  keep : ∀ a o (_ : H a = some o) (_ : Out L a) (_ : ∀ ps, o ≠ .tbl ps := by exact fun _ => nofun), H' a = some o ∧ Out L' a
section
variable {K : PySem.W.Frag} {L L' L1 L2' : Wd} {H H' H1 H2 : Hp}
theorem Step.refl : Step L H L H := ⟨⟨[], by simp⟩, rfl, fun _ _ => rfl, fun a o e n _ => ⟨e, n⟩⟩
theorem Step.trans (a : Step L H L1 H1) (b : Step L1 H1 L' H') : Step L H L' H' := by
  obtain ⟨l, e⟩ := a.more
  obtain ⟨m, e'⟩ := b.more
  exact ⟨⟨l ++ m, by rw [e', e, List.append_assoc]⟩, b.same.trans a.same, fun x h => (b.hid x (by rw [a.same]; exact h)).trans (a.hid x h), fun x o h n t => b.keep x o (a.keep x o h n t).1 (a.keep x o h n t).2 t⟩
theorem Step.mv (s : Step L H L' H') : Mv L H L' H' := ⟨fun n a h => by
  obtain ⟨l, e⟩ := s.more
  rw [e, List.getElem?_append_left (List.getElem?_eq_some_iff.mp h).1]
  exact h, fun a o e n t => s.keep a o e n t⟩
theorem Mv.trans (a : Mv L H L1 H1) (b : Mv L1 H1 L' H') : Mv L H L' H' := ⟨fun n x h => b.get n x (a.get n x h), fun x o h n t => b.keep x o (a.keep x o h n t).1 (a.keep x o h n t).2 t⟩
theorem Mv.refl : Mv L H L H := ⟨fun _ _ h => h, fun _ _ e n _ => ⟨e, n⟩⟩
theorem TabO.mv {P : Addr} {q : Str} (s : Mv L H L' H') (e : H' P = H P) (n : Out L' P) (t : TabO L H P q) : TabO L' H' P q := by
  obtain ⟨ps, h1, h2, h3, h4⟩ := t
  refine ⟨ps, e.trans h1, h2, n, fun pos cv hc => ?_⟩
  obtain ⟨c, e1, e2, e3⟩ := h4 pos cv hc
  exact ⟨c, e1, (s.keep _ _ e2 e3 LamX.codeO_ne).1, (s.keep _ _ e2 e3 LamX.codeO_ne).2⟩
theorem TabO.at_ {P : Addr} {q : Str} (t : TabO L H P q) : (∃ ps, H P = some (.tbl ps)) ∧ Out L P := let ⟨ps, h1, _, h3, _⟩ := t; ⟨⟨ps, h1⟩, h3⟩
theorem TabsO.mv (s : Mv L H L' H') (e : ∀ P ps, H P = some (.tbl ps) → Out L P → H' P = H P ∧ Out L' P) (t : TabsO K L H) : TabsO K L' H' := fun x hx P hp => by
  have z := t x hx P hp
  obtain ⟨⟨ps, h1⟩, h2⟩ := z.at_
  exact z.mv s (e P ps h1 h2).1 (e P ps h1 h2).2
theorem rd_mv (s : Mv L H L' H') {a : Addr} {u : HO} (h : Rd H a u) (n : Out L a) (nt : ∀ ps, u ≠ .tbl ps := by exact fun _ => nofun) : Rd H' a u ∧ Out L' a := by
  rcases h with h | ⟨o, h⟩
  · exact ⟨.inl (s.keep _ _ h n nt).1, (s.keep _ _ h n nt).2⟩
  · exact ⟨.inr ⟨o, (s.keep _ _ h n).1⟩, (s.keep _ _ h n).2⟩
mutual
theorem Is.mv (s : Mv L H L' H') : ∀ {d : D} {v : V}, Is K L H d v → Is K L' H' d v
  | _, _, .non => .non
  | _, _, .bl b => .bl b
  | _, _, .int i => .int i
  | _, _, .str x => .str x
  | _, _, .ty n => .ty n
  | _, _, .adr a => .adr a
  | _, _, .tup h n r => .tup (s.keep _ _ h n).1 (s.keep _ _ h n).2 (IsL.mv s r)
  | _, _, .tupK h r => .tupK h (IsL.mv s r)
  | _, _, .ftu h e n r => .ftu (s.keep _ _ h n).1 e (s.keep _ _ h n).2 (IsL.mv s r)
  | _, _, .lst h n r => .lst (s.keep _ _ h n).1 (s.keep _ _ h n).2 (IsL.mv s r)
  | _, _, .scr h n r => .scr (rd_mv s h n).1 (rd_mv s h n).2 (IsL.mv s r)
  | _, _, .scrK h r => .scrK h (IsL.mv s r)
  | _, _, .dic h n r => .dic (s.keep _ _ h n).1 (s.keep _ _ h n).2 (IsKV.mv s r)
  | _, _, .obj h n r => .obj (s.keep _ _ h n).1 (s.keep _ _ h n).2 (IsFs.mv s r)
  | _, _, .ref h => .ref (s.get _ _ h)
theorem IsL.mv (s : Mv L H L' H') : ∀ {ds : List D} {vs : List V}, IsL K L H ds vs → IsL K L' H' ds vs
  | _, _, .nil => .nil
  | _, _, .cons a b => .cons (Is.mv s a) (IsL.mv s b)
theorem IsKV.mv (s : Mv L H L' H') : ∀ {ds : List (Key × D)} {vs : List (Key × V)}, IsKV K L H ds vs → IsKV K L' H' ds vs
  | _, _, .nil => .nil
  | _, _, .cons a b => .cons (Is.mv s a) (IsKV.mv s b)
theorem IsFs.mv (s : Mv L H L' H') : ∀ {ds : List (Str × D)} {vs : List (Str × V)}, IsFs K L H ds vs → IsFs K L' H' ds vs
  | _, _, .nil => .nil
  | _, _, .cons a b => .cons (Is.mv s a) (IsFs.mv s b)
end
theorem Is.step (s : Step L H L' H') {d : D} {v : V} (h : Is K L H d v) : Is K L' H' d v := h.mv s.mv
theorem IsL.step (s : Step L H L' H') {d : List D} {v : List V} (h : IsL K L H d v) : IsL K L' H' d v := h.mv s.mv
theorem IsKV.step (s : Step L H L' H') {d : List (Key × D)} {v : List (Key × V)} (h : IsKV K L H d v) : IsKV K L' H' d v := h.mv s.mv
theorem IsFs.step (s : Step L H L' H') {d : List (Str × D)} {v : List (Str × V)} (h : IsFs K L H d v) : IsFs K L' H' d v := h.mv s.mv
theorem EnvIs.mv (s : Mv L H L' H') {env : Env} {σ : L2.St} (h : EnvIs K L H env σ) : EnvIs K L' H' env σ :=
  ⟨h.len, fun i d e => let ⟨v, a, b⟩ := h.at_ i d e; ⟨v, a, b.mv s⟩⟩
theorem EnvIs.step (s : Step L H L' H') {env : Env} {σ : L2.St} (h : EnvIs K L H env σ) : EnvIs K L' H' env σ := h.mv s.mv
theorem CellIs.mv {c : Cell} {a : Addr} (s : Mv L H L' H') (e : H' a = H a) (h : CellIs K L H c a) : CellIs K L' H' c a := by
  cases c with
  | lst ds => exact let ⟨vs, q, r⟩ := h; ⟨vs, e.trans q, r.mv s⟩
  | dic kvs => exact let ⟨vs, q, r⟩ := h; ⟨vs, e.trans q, r.mv s⟩
  | obj c fs => exact let ⟨dx, vs, q, r⟩ := h; ⟨dx, vs, e.trans q, r.mv s⟩
  | dct ks ds => exact let ⟨vs, q, n, r⟩ := h; ⟨vs, e.trans q, n, r.mv s⟩
  | fn => exact let ⟨fd, q⟩ := h; ⟨fd, e.trans q⟩
  | xc x =>
    rcases h with q | ⟨dx, gs, q, r, n⟩
    · exact .inl (e.trans q)
    · have z := s.keep dx _ r n (fun ps z => nomatch (show HO.ext _ = HO.tbl ps from z))
      exact .inr ⟨dx, gs, e.trans q, z.1, z.2⟩
theorem CellIs.mono {c : Cell} {a : Addr} (s : Step L H L' H') (e : H' a = H a) (h : CellIs K L H c a) : CellIs K L' H' c a := h.mv s.mv e
theorem IsL.length : ∀ {ds : List D} {vs : List V}, IsL K L H ds vs → ds.length = vs.length
  | _, _, .nil => rfl
  | _, _, .cons _ b => by rw [List.length_cons, List.length_cons, IsL.length b]
theorem IsL.append : ∀ {ds es : List D} {vs ws : List V}, IsL K L H ds vs → IsL K L H es ws → IsL K L H (ds ++ es) (vs ++ ws)
  | _, _, _, _, .nil, s => s
  | _, _, _, _, .cons r t, s => .cons r (IsL.append t s)
theorem IsL.get : ∀ {ds : List D} {vs : List V} {i : Nat} {d : D}, IsL K L H ds vs → ds[i]? = some d → ∃ v, vs[i]? = some v ∧ Is K L H d v
  | _, _, _, _, .nil, e => by simp at e
  | _, _, 0, _, .cons r _, e => by simp at e; subst e; exact ⟨_, rfl, r⟩
  | _, _, i + 1, d, .cons _ t, e => by
    obtain ⟨u, h1, h2⟩ := IsL.get (i := i) (d := d) t (by simpa using e)
    exact ⟨u, by simpa using h1, h2⟩
theorem IsL.set {d : D} {v : V} (r : Is K L H d v) : ∀ {ds : List D} {vs : List V} (i : Nat), IsL K L H ds vs → IsL K L H (ds.set i d) (vs.set i v)
  | _, _, _, .nil => .nil
  | _, _, 0, .cons _ t => .cons r t
  | _, _, i + 1, .cons q t => .cons q (IsL.set r i t)
theorem IsL.take : ∀ {ds : List D} {vs : List V} (n : Nat), IsL K L H ds vs → IsL K L H (ds.take n) (vs.take n)
  | _, _, 0, _ => .nil
  | _, _, _ + 1, .nil => .nil
  | _, _, n + 1, .cons r t => .cons r (IsL.take n t)
theorem IsL.drop : ∀ {ds : List D} {vs : List V} (n : Nat), IsL K L H ds vs → IsL K L H (ds.drop n) (vs.drop n)
  | _, _, 0, r => r
  | _, _, _ + 1, .nil => .nil
  | _, _, n + 1, .cons _ t => IsL.drop n t
theorem IsL.reverse : ∀ {ds : List D} {vs : List V}, IsL K L H ds vs → IsL K L H ds.reverse vs.reverse
  | _, _, .nil => .nil
  | _, _, .cons r t => by
    rw [List.reverse_cons, List.reverse_cons]
    exact (IsL.reverse t).append (.cons r .nil)
theorem EnvIs.set {env : Env} {σ : L2.St} {d : D} {v : V} (h : EnvIs K L H env σ) (i : Nat) (r : Is K L H d v) : EnvIs K L H (env.set i (some d)) (σ.set i (some v)) := by
  refine ⟨by rw [List.length_set, List.length_set, h.len], fun j e q => ?_⟩
  by_cases hj : i = j
  · subst hj
    have hlt : i < env.length := by
      have := (List.getElem?_eq_some_iff.mp q).1
      rwa [List.length_set] at this
    rw [List.getElem?_set_self hlt] at q
    cases q
    exact ⟨v, List.getElem?_set_self (by rw [← h.len]; exact hlt), r⟩
  · rw [List.getElem?_set_ne hj] at q
    obtain ⟨w, a, b⟩ := h.at_ j e q
    exact ⟨w, by rw [List.getElem?_set_ne hj]; exact a, b⟩
theorem EnvIs.drop {env : Env} {σ : L2.St} (h : EnvIs K L H env σ) (i : Nat) : EnvIs K L H (env.set i none) σ := by
  refine ⟨by rw [List.length_set, h.len], fun j e q => ?_⟩
  by_cases hj : i = j
  · subst hj
    have hlt : i < env.length := by
      have := (List.getElem?_eq_some_iff.mp q).1
      rwa [List.length_set] at this
    rw [List.getElem?_set_self hlt] at q
    cases q
  · rw [List.getElem?_set_ne hj] at q
    exact h.at_ j e q
theorem CellIs.some {c : Cell} {a : Addr} (h : CellIs K L H c a) : ∃ o, H a = some o := by
  cases c with
  | lst ds => exact let ⟨vs, e, _⟩ := h; ⟨_, e⟩
  | dic kvs => exact let ⟨vs, e, _⟩ := h; ⟨_, e⟩
  | obj c fs => exact let ⟨_, vs, e, _⟩ := h; ⟨_, e⟩
  | dct ks ds => exact let ⟨vs, e, _⟩ := h; ⟨_, e⟩
  | fn => exact let ⟨fd, e⟩ := h; ⟨_, e⟩
  | xc x => exact h.elim (fun e => ⟨_, e⟩) fun ⟨_, _, e, _⟩ => ⟨_, e⟩
theorem MemIs.there {M : Mem} (m : MemIs K L H M) {a : Addr} (h : a ∈ L.l) : ∃ o, H a = some o := by
  obtain ⟨n, hn⟩ := List.mem_iff_getElem?.mp h
  have hl : n < M.length := by rw [← m.len]; exact (List.getElem?_eq_some_iff.mp hn).1
  exact (m.cell n a _ hn (List.getElem?_eq_getElem hl)).some
theorem MemIs.out {M : Mem} (m : MemIs K L H M) {p : Addr} (hp : H p = none) : Out L p := by
  refine ⟨fun h => ?_, fun h => ?_⟩
  · obtain ⟨u, e⟩ := m.there h
    rw [hp] at e
    cases e
  · obtain ⟨_, u, e, _⟩ := m.hid p h
    rw [hp] at e
    cases e
theorem MemIs.outT {M : Mem} (m : MemIs K L H M) {p : Addr} {vs : List V} (hp : H p = some (.tup vs)) : Out L p := by
  refine ⟨fun h => ?_, fun h => ?_⟩
  · obtain ⟨n, hn⟩ := List.mem_iff_getElem?.mp h
    have hl : n < M.length := by rw [← m.len]; exact (List.getElem?_eq_some_iff.mp hn).1
    have c := m.cell n p _ hn (List.getElem?_eq_getElem hl)
    cases hc : M[n] with
    | lst ds => rw [hc] at c; obtain ⟨_, e, _⟩ := c; rw [hp] at e; cases e
    | dic kvs => rw [hc] at c; obtain ⟨_, e, _⟩ := c; rw [hp] at e; cases e
    | obj x fs => rw [hc] at c; obtain ⟨_, _, e, _⟩ := c; rw [hp] at e; cases e
    | dct ks ds => rw [hc] at c; obtain ⟨_, e, _⟩ := c; rw [hp] at e; cases e
    | fn => rw [hc] at c; obtain ⟨_, e⟩ := c; rw [hp] at e; cases e
    | xc x =>
      rw [hc] at c
      rcases c with e | ⟨_, _, e, _⟩ <;> (rw [hp] at e; cases e)
  · obtain ⟨_, u, e, t⟩ := m.hid p h
    rw [hp] at e
    cases e
    exact t _ rfl
theorem Step.new {M : Mem} (m : MemIs K L H M) {p : Addr} {o : HO} (hp : H p = none) : Step L H L (upd H p o) ∧ Out L p := by
  refine ⟨⟨⟨[], by simp⟩, rfl, fun a h => ?_, fun a u e n _ => ⟨?_, n⟩⟩, m.out hp⟩
  · obtain ⟨_, u, e, _⟩ := m.hid a h
    exact upd_ne (ne_of_none e hp)
  · rw [upd_ne (ne_of_none e hp)]
    exact e
theorem MemIs.new {M : Mem} (m : MemIs K L H M) {p : Addr} {o : HO} (hp : H p = none) : MemIs K L (upd H p o) M :=
  ⟨m.len, m.nd, fun n a c e q => (m.cell n a c e q).mono (Step.new m hp).1 (upd_ne (fun (z : a = p) => (m.out hp).1 (z ▸ List.mem_of_getElem? e))),
    fun a h => ⟨(m.hid a h).1, let ⟨u, e, t⟩ := (m.hid a h).2; ⟨u, (upd_ne (ne_of_none e hp)).trans e, t⟩⟩, m.tab.mv (Step.new m hp).1.mv fun P ps e n => ⟨upd_ne (ne_of_none e hp), n⟩⟩
theorem Step.cell {M : Mem} (m : MemIs K L H M) {p : Addr} {o : HO} (hp : H p = none) : Step L H (L.add p) (upd H p o) := by
  refine ⟨⟨[p], rfl⟩, rfl, fun a h => ?_, fun a u e n _ => ⟨?_, fun h => ?_, n.2⟩⟩
  · obtain ⟨_, u, e, _⟩ := m.hid a h
    exact upd_ne (ne_of_none e hp)
  · rw [upd_ne (ne_of_none e hp)]
    exact e
  · rcases List.mem_append.mp h with h | h
    · exact n.1 h
    · have : a = p := by simpa using h
      rw [this, hp] at e
      cases e
theorem MemIs.push {M : Mem} (m : MemIs K L H M) {p : Addr} {o : HO} {c : Cell} (hp : H p = none) (hc : CellIs K (L.add p) (upd H p o) c p) : MemIs K (L.add p) (upd H p o) (M ++ [c]) := by
  have hn : p ∉ L.l := (m.out hp).1
  refine ⟨by simp [Wd.add, m.len], ?_, fun n a c' e q => ?_, fun a h => ⟨fun z => ?_, ?_⟩, m.tab.mv (Step.cell m hp).mv fun P ps e n => ⟨upd_ne (ne_of_none e hp), fun z => ?_, n.2⟩⟩
  · show (L.l ++ [p]).Nodup
    rw [List.nodup_append]
    exact ⟨m.nd, by simp, fun a ha b hb => by
      have : b = p := by simpa using hb
      subst this
      exact fun z => hn (z ▸ ha)⟩
  · have e : (L.l ++ [p])[n]? = some a := e
    by_cases h : n < L.l.length
    · rw [List.getElem?_append_left h] at e
      rw [List.getElem?_append_left (by rw [← m.len]; exact h)] at q
      exact (m.cell n a c' e q).mono (Step.cell m hp) (upd_ne (fun (z : a = p) => hn (z ▸ List.mem_of_getElem? e)))
    · rw [List.getElem?_append_right (by omega)] at e
      rw [List.getElem?_append_right (by rw [← m.len]; omega)] at q
      have hk : n - L.l.length = 0 := by
        have := (List.getElem?_eq_some_iff.mp e).1
        simp at this
        omega
      rw [hk] at e
      rw [show n - M.length = 0 by rw [← m.len]; exact hk] at q
      simp at e q
      subst e q
      exact hc
  · obtain ⟨h1, u, h2, t⟩ := m.hid a h
    rcases List.mem_append.mp z with z | z
    · exact h1 z
    · have : a = p := by simpa using z
      rw [this, hp] at h2
      cases h2
  · obtain ⟨h1, u, h2, t⟩ := m.hid a h
    exact ⟨u, (upd_ne (ne_of_none h2 hp)).trans h2, t⟩
  · rcases List.mem_append.mp z with z | z
    · exact n.1 z
    · exact ne_of_none e hp (by simpa using z)
theorem Step.put {M : Mem} (m : MemIs K L H M) {n : Nat} {a : Addr} {o : HO} (h : L.l[n]? = some a) : Step L H L (upd H a o) :=
  ⟨⟨[], by simp⟩, rfl, fun b hb => upd_ne (fun (z : b = a) => (m.hid b hb).1 (by rw [z]; exact List.mem_of_getElem? h)), fun b u e q _ => ⟨(upd_ne (fun (z : b = a) => q.1 (by rw [z]; exact List.mem_of_getElem? h))).trans e, q⟩⟩
theorem MemIs.put {M : Mem} (m : MemIs K L H M) {n : Nat} {a : Addr} {o : HO} {c : Cell} (h : L.l[n]? = some a) (hc : CellIs K L (upd H a o) c a) : MemIs K L (upd H a o) (M.set n c) := by
  refine ⟨by rw [m.len, List.length_set], m.nd, fun k b c' e q => ?_, fun b hb => ⟨(m.hid b hb).1, ?_⟩, m.tab.mv (Step.put m h).mv fun P ps e n => ⟨upd_ne (fun (z : P = a) => n.1 (by rw [z]; exact List.mem_of_getElem? h)), n⟩⟩
  · by_cases hk : n = k
    · subst hk
      rw [h] at e
      cases e
      have hlt : n < M.length := by rw [← m.len]; exact (List.getElem?_eq_some_iff.mp h).1
      rw [List.getElem?_set_self hlt] at q
      cases q
      exact hc
    · rw [List.getElem?_set_ne hk] at q
      refine (m.cell k b c' e q).mono (Step.put m h) (upd_ne fun z => hk ?_)
      subst z
      exact nodup_at m.nd h e
  · obtain ⟨u, e, t⟩ := (m.hid b hb).2
    exact ⟨u, (upd_ne (fun (z : b = a) => (m.hid b hb).1 (by rw [z]; exact List.mem_of_getElem? h))).trans e, t⟩
theorem Mv.hide {p : Addr} {o : HO} (hp : H p = none) : Mv L H (L.hide p) (upd H p o) := ⟨fun _ _ h => h, fun a u e n _ => ⟨(upd_ne (ne_of_none e hp)).trans e, n.1, fun z => by
  rcases List.mem_cons.mp z with z | z
  · exact ne_of_none e hp z
  · exact n.2 z⟩⟩
theorem Out.show {p a : Addr} (h : Out (L.hide p) a) : Out L a := ⟨h.1, fun z => h.2 (List.mem_cons_of_mem _ z)⟩
theorem Mv.show {p : Addr} : Mv (L.hide p) H L H := ⟨fun _ _ h => h, fun _ _ e n _ => ⟨e, n.show⟩⟩
theorem Mv.built {p : Addr} {o : HO} : Mv (L.hide p) H (L.hide p) (upd H p o) := ⟨fun _ _ h => h, fun _ _ e n _ => ⟨(upd_ne (out_ne n)).trans e, n⟩⟩
theorem Step.mvHide (s : Step L H L' H') {p : Addr} (hp : H p = none) : Mv L H (L'.hide p) H' := ⟨s.mv.get, fun a u e n t => ⟨(s.keep a u e n t).1, (s.keep a u e n t).2.1, fun z => by
  rcases List.mem_cons.mp z with z | z
  · exact ne_of_none e hp z
  · exact (s.keep a u e n t).2.2 z⟩⟩
theorem MemIs.hide {M : Mem} (m : MemIs K L H M) {p : Addr} {o : HO} (hp : H p = none) (ht : NTup o := by exact fun _ => nofun) : MemIs K (L.hide p) (upd H p o) M := by
  refine ⟨m.len, m.nd, fun n a c e q => (m.cell n a c e q).mv (Mv.hide hp) (let ⟨u, z⟩ := (m.cell n a c e q).some; upd_ne (ne_of_none z hp)), fun a h => ?_, m.tab.mv (Mv.hide hp) fun P ps e n => ⟨upd_ne (ne_of_none e hp), n.1, fun z => ?_⟩⟩
  rotate_left
  · rcases List.mem_cons.mp z with z | z
    · exact ne_of_none e hp z
    · exact n.2 z
  rcases List.mem_cons.mp h with rfl | h
  · exact ⟨(m.out hp).1, o, upd_same, ht⟩
  · obtain ⟨h1, u, h2, t⟩ := m.hid a h
    exact ⟨h1, u, (upd_ne (ne_of_none h2 hp)).trans h2, t⟩
theorem MemIs.show {M : Mem} {p : Addr} (m : MemIs K (L.hide p) H M) : MemIs K L H M :=
  ⟨m.len, m.nd, fun n a c e q => (m.cell n a c e q).mv Mv.show rfl, fun a h => m.hid a (List.mem_cons_of_mem _ h), m.tab.mv Mv.show fun P ps e n => ⟨rfl, n.show⟩⟩
theorem MemIs.built {M : Mem} {p : Addr} {o : HO} (m : MemIs K (L.hide p) H M) (ht : NTup o := by exact fun _ => nofun) : MemIs K (L.hide p) (upd H p o) M := by
  refine ⟨m.len, m.nd, fun n a c e q => (m.cell n a c e q).mv Mv.built (upd_ne fun (z : a = p) => (m.hid p List.mem_cons_self).1 (z ▸ List.mem_of_getElem? e)), fun a h => ⟨(m.hid a h).1, ?_⟩, m.tab.mv Mv.built fun P ps e n => ⟨upd_ne (out_ne n), n⟩⟩
  by_cases z : a = p
  · subst z
    exact ⟨o, upd_same, ht⟩
  · obtain ⟨u, e, t⟩ := (m.hid a h).2
    exact ⟨u, (upd_ne z).trans e, t⟩
theorem Step.over (s : Step L H L1 H1) {p : Addr} (hp : H p = none) {L' : Wd} (s' : Step (L1.hide p) H1 L' H') : ∃ L3, L' = L3.hide p ∧ Step L H L3 H' := by
  refine ⟨⟨L'.l, L1.z⟩, ?_, ⟨?_, s.same, fun a h => ?_, fun a u e n t => ?_⟩⟩
  · have := s'.same
    cases L'
    simp only [Wd.hide] at this ⊢
    rw [this]
  · obtain ⟨l, e⟩ := s.more
    obtain ⟨m, e'⟩ := s'.more
    exact ⟨l ++ m, by show L'.l = _; rw [e', show (L1.hide p).l = L1.l from rfl, e, List.append_assoc]⟩
  · exact (s'.hid a (List.mem_cons_of_mem _ (by rw [s.same]; exact h))).trans (s.hid a h)
  · have ne := ne_of_none e hp
    obtain ⟨h1, h2⟩ := s.keep a u e n t
    obtain ⟨h3, h4⟩ := s'.keep a u h1 ⟨h2.1, fun z => by
      rcases List.mem_cons.mp z with z | z
      · exact ne z
      · exact h2.2 z⟩ t
    exact ⟨h3, h4.1, fun z => h4.2 (by rw [s'.same]; exact List.mem_cons_of_mem _ z)⟩
theorem Step.built (s : Step L H L1 H1) {p : Addr} {o : HO} (np : p ∉ L.z) (hp : H p = none) : Step L H L1 (upd H1 p o) := by
  refine ⟨s.more, s.same, fun a h => ?_, fun a u e n t => ?_⟩
  · rw [upd_ne (fun (z : a = p) => np (z ▸ h))]
    exact s.hid a h
  · rw [upd_ne (ne_of_none e hp)]
    exact s.keep a u e n t
end
end Ly
namespace Ly
open PySem PySem.Spec PyProof.Rows L2
structure Xc where
  bi : Option String
  c : Str
  fs : List (Str × D)
inductive Res (α : Type) where
  | ok (a : α) (M : Mem) | exc (x : Xc) (M : Mem) | bad
inductive ResS where
  | nx (env : Env) (M : Mem) | rt (d : D) (M : Mem) | bk (env : Env) (M : Mem) | ct (env : Env) (M : Mem) | exc (x : Xc) (M : Mem) | bad
def Res.bind {α β : Type} (r : Res α) (f : α → Mem → Res β) : Res β := match r with
  | .ok a M => f a M
  | .exc x M => .exc x M
  | .bad => .bad
def Res.bindS {α : Type} (r : Res α) (f : α → Mem → ResS) : ResS := match r with
  | .ok a M => f a M
  | .exc x M => .exc x M
  | .bad => .bad
abbrev ME := Env → Mem → Res D
abbrev MT := Env → Mem → Res Bool
abbrev MA := Env → Mem → Res (List D)
abbrev MS := Env → Mem → ResS
abbrev MF := List D → Mem → Res D
def XcIs (K : PySem.W.Frag) (L : Wd) (H : Hp) (x : Xc) (cls : Value) (d : Option Addr) : Prop :=
  (match x.bi with
    | some n => cls = .type n
    | none => cls = .ref (He.ga K x.c)) ∧
  match x.fs with
    | [] => d = none
    | f :: fs => ∃ dd gs, d = some dd ∧ H dd = some (.xd gs) ∧ Out L dd ∧ IsFs K L H (f :: fs) gs
theorem XcIs.step {K : PySem.W.Frag} {L L' : Wd} {H H' : Hp} {x : Xc} {cls : Value} {d : Option Addr} (s : Step L H L' H') (h : XcIs K L H x cls d) : XcIs K L' H' x cls d := by
  refine ⟨h.1, ?_⟩
  have h2 := h.2
  split at h2
  · exact h2
  · obtain ⟨dd, gs, e, q, n, r⟩ := h2
    exact ⟨dd, gs, e, (s.keep _ _ q n).1, (s.keep _ _ q n).2, r.step s⟩
section
variable {α β γ δ : Type}
def Fin (Rl : Wd → Hp → α → β → Prop) (K : PySem.W.Frag) (E : XK) (L : Wd) (H : Hp) (r : Res α) (Q : β → Hp → Prop) : Prop := match r with
  | .ok a M => ∀ L' H' b, Step L H L' H' → MemIs K L' H' M → Rl L' H' a b → Q b H'
  | .exc x M => ∀ L' H' cls d, Step L H L' H' → MemIs K L' H' M → XcIs K L' H' x cls d → E cls d H'
  | .bad => False
def FinS (K : PySem.W.Frag) (E : XK) (L : Wd) (H : Hp) (r : ResS) (N : Ends) : Prop := match r with
  | .nx env M => ∀ L' H' σ', Step L H L' H' → MemIs K L' H' M → EnvIs K L' H' env σ' → N.nx σ' H'
  | .bk env M => ∀ L' H' σ', Step L H L' H' → MemIs K L' H' M → EnvIs K L' H' env σ' → N.bk σ' H'
  | .ct env M => ∀ L' H' σ', Step L H L' H' → MemIs K L' H' M → EnvIs K L' H' env σ' → N.ct σ' H'
  | .rt d M => ∀ L' H' v, Step L H L' H' → MemIs K L' H' M → Is K L' H' d v → N.rt v H'
  | .exc x M => ∀ L' H' cls d, Step L H L' H' → MemIs K L' H' M → XcIs K L' H' x cls d → E cls d H'
  | .bad => False
variable {K : PySem.W.Frag} {E : XK} {L L1 : Wd} {H H1 : Hp} {Rl : Wd → Hp → α → β → Prop} {Rm : Wd → Hp → γ → δ → Prop}
theorem Fin.step {r : Res α} {Q : β → Hp → Prop} (s : Step L H L1 H1) (h : Fin Rl K E L H r Q) : Fin Rl K E L1 H1 r Q := by
  cases r with
  | ok a M => exact fun L' H' b s' m q => h L' H' b (s.trans s') m q
  | exc x M => exact fun L' H' c d s' m q => h L' H' c d (s.trans s') m q
  | bad => exact h
theorem FinS.step {r : ResS} {N : Ends} (s : Step L H L1 H1) (h : FinS K E L H r N) : FinS K E L1 H1 r N := by
  cases r with
  | nx a M => exact fun L' H' b s' m q => h L' H' b (s.trans s') m q
  | bk a M => exact fun L' H' b s' m q => h L' H' b (s.trans s') m q
  | ct a M => exact fun L' H' b s' m q => h L' H' b (s.trans s') m q
  | rt a M => exact fun L' H' b s' m q => h L' H' b (s.trans s') m q
  | exc x M => exact fun L' H' c d s' m q => h L' H' c d (s.trans s') m q
  | bad => exact h
theorem Fin.bind {r : Res α} {f : α → Mem → Res γ} {Q : δ → Hp → Prop} (h : Fin Rm K E L H (r.bind f) Q) :
    Fin Rl K E L H r (fun b H1 => ∃ a M1 L1, Step L H L1 H1 ∧ MemIs K L1 H1 M1 ∧ Rl L1 H1 a b ∧ Fin Rm K E L1 H1 (f a M1) Q) := by
  cases r with
  | ok a M => exact fun L' H' b s m q => ⟨a, M, L', s, m, q, Fin.step s h⟩
  | exc x M => exact h
  | bad => exact h
theorem Fin.bindS {r : Res α} {f : α → Mem → ResS} {N : Ends} (h : FinS K E L H (r.bindS f) N) :
    Fin Rl K E L H r (fun b H1 => ∃ a M1 L1, Step L H L1 H1 ∧ MemIs K L1 H1 M1 ∧ Rl L1 H1 a b ∧ FinS K E L1 H1 (f a M1) N) := by
  cases r with
  | ok a M => exact fun L' H' b s m q => ⟨a, M, L', s, m, q, FinS.step s h⟩
  | exc x M => exact h
  | bad => exact h
theorem Fin.imp {r : Res α} {Q Q' : β → Hp → Prop} (h : Fin Rl K E L H r Q) (hq : ∀ b H', Q b H' → Q' b H') : Fin Rl K E L H r Q' := by
  cases r with
  | ok a M => exact fun L' H' b s m q => hq _ _ (h L' H' b s m q)
  | exc x M => exact h
  | bad => exact h
theorem Fin.end_ {a : α} {M : Mem} {Q : β → Hp → Prop} (h : Fin Rl K E L H (.ok a M) Q) (m : MemIs K L H M) {b : β} (r : Rl L H a b) : Q b H := h L H b Step.refl m r
end
abbrev RB : Wd → Hp → Bool → Bool → Prop := fun _ _ a b => a = b
section
variable (K : PySem.W.Frag) (E : XK)
def tD (m : ME) : TE := fun σ H Q => ∃ env L M, EnvIs K L H env σ ∧ MemIs K L H M ∧ Fin (Is K) K E L H (m env M) Q
def tTD (m : MT) : TT := fun σ H Q => ∃ env L M, EnvIs K L H env σ ∧ MemIs K L H M ∧ Fin RB K E L H (m env M) Q
def tAD (m : MA) : TA := fun σ H Q => ∃ env L M, EnvIs K L H env σ ∧ MemIs K L H M ∧ Fin (IsL K) K E L H (m env M) Q
def sD (m : MS) : TS := fun N σ H => ∃ env L M, EnvIs K L H env σ ∧ MemIs K L H M ∧ FinS K E L H (m env M) N
end
end Ly
namespace L2
open PySem PySem.Spec PyProof.Rows
section
variable {X : Cx}
theorem PE.imp {e : Expr} {t t' : TE} (h : PE X e t) (i : ∀ σ H Q, t' σ H Q → t σ H Q) : PE X e t' := ⟨fun pins s σ H Q I q => h.run pins s σ H Q I (i σ H Q q)⟩
theorem PT.imp {e : Expr} {t t' : TT} (h : PT X e t) (i : ∀ σ H Q, t' σ H Q → t σ H Q) : PT X e t' := ⟨fun pins s σ H Q I q => h.run pins s σ H Q I (i σ H Q q)⟩
theorem PW.imp {e : Expr} {t t' : TT} (h : PW X e t) (i : ∀ σ H Q, t' σ H Q → t σ H Q) : PW X e t' := ⟨fun w pins s σ H Q I q => h.run w pins s σ H Q I (i σ H Q q)⟩
theorem PA.imp {e : List Expr} {t t' : TA} (h : PA X e t) (i : ∀ σ H Q, t' σ H Q → t σ H Q) : PA X e t' := ⟨fun p pins s σ H Q I q => h.run p pins s σ H Q I (i σ H Q q)⟩
theorem PS.imp {e : Stmt} {t t' : TS} (h : PS X e t) (i : ∀ N σ H, t' N σ H → t N σ H) : PS X e t' := ⟨fun pins s σ H N I q => h.run pins s σ H N I (i N σ H q)⟩
theorem PSs.imp {e : List Stmt} {t t' : TS} (h : PSs X e t) (i : ∀ N σ H, t' N σ H → t N σ H) : PSs X e t' := ⟨fun pins s σ H N I q => h.run pins s σ H N I (i N σ H q)⟩
theorem PI.imp {tg e : Expr} {t t' : TI} (h : PI X tg e t) (i : ∀ σ H Q, t' σ H Q → t σ H Q) : PI X tg e t' := ⟨fun pins s σ H Q I q => h.run pins s σ H Q I (i σ H Q q)⟩
theorem PG.imp {e : Expr} {t t' : TG} (h : PG X e t) (i : ∀ v σ H Q, t' v σ H Q → t v σ H Q) : PG X e t' := ⟨fun pins s σ H v u Q I r q => h.run pins s σ H v u Q I r (i v σ H Q q)⟩
end
end L2
namespace Ly
open PySem PySem.Spec PyProof.Rows L2
structure Gd where
  P : Program
  w : World
  K : PySem.W.Frag
  mg : Str → Option Value
  base : Heap
  gs : Option (List Code)
def gdOf (X : Cx) : Gd := ⟨X.prog, X.w, X.K, X.mg, X.base, X.A.guards⟩
structure Brp (G : Gd) (x : Str) : Prop where
  fr : G.mg x = none
  gs : G.gs = some []
structure Cq (G : Gd) (k : Nat) (E : XK) (N : List Str) (sc : Scope) (X : Cx) : Prop where
  g : gdOf X = G
  n : X.N = N
  nd : N.Nodup
  scq : X.env.scope = sc
  calm : X.calm = true
  room : Room k X.A
  pass : Passes (L2.CX X.prog X.w) X E
  po : PassesOwn (model X.prog X.w) X.A X.env X.xe
  kd : sc.kind = ScopeKind.function
  gd : X.A.guards = G.gs
section
variable {G : Gd} {k : Nat} {E : XK} {N : List Str} {sc : Scope} {X : Cx}
def mVar (i : Nat) : ME := fun env M => match env[i]? with
  | some (some d) => .ok d M
  | _ => .bad
def mC (d : D) : ME := fun _ M => .ok d M
theorem ce_var {i : Nat} {x : Str} {pos : Pos} (c : Cq G k E N sc X) (hi : N[i]? = some x) (hv : Vis sc x) (hd : (x == ("__debug__" : Str)) = false := by decide +kernel) (hcd : (x == ("__classdict__" : Str)) = false := by decide +kernel) :
    PE X (.Name x pos) (tD G.K E (mVar i)) := by
  refine (pe_var (i := i) (by rw [c.n]; exact hi) (by rw [c.scq]; exact hv) hd hcd).imp fun σ H Q ⟨env, L, M, he, hm, h⟩ => ?_
  unfold mVar at h
  split at h
  · rename_i d e
    obtain ⟨v, e1, r⟩ := he.at_ i d e
    exact ⟨v, e1, h.end_ hm r⟩
  · exact h.elim
theorem ce_c {e : Expr} {d : D} {v : V} (h : PE X e (tC v)) (r : ∀ L H, Is G.K L H d v) : PE X e (tD G.K E (mC d)) :=
  h.imp fun σ H Q ⟨env, L, M, he, hm, q⟩ => q.end_ hm (r L H)
theorem ce_int {i : Int} {j pos} : PE X (.Constant (.int i) j pos) (tD G.K E (mC (.int i))) := ce_c pe_int fun _ _ => .int i
theorem ce_bl {b : Bool} {j pos} : PE X (.Constant (.bool b) j pos) (tD G.K E (mC (.bl b))) := ce_c pe_bl fun _ _ => .bl b
theorem ce_non {j pos} : PE X (.Constant .none j pos) (tD G.K E (mC .non)) := ce_c pe_non fun _ _ => .non
theorem ce_str {x : Str} {j pos} : PE X (.Constant (.str x) j pos) (tD G.K E (mC (.str x))) := ce_c pe_str fun _ _ => .str x
theorem ce_bltn {x : Str} {d : D} {v : V} {u : Value} {pos : Pos} (c : Cq G k E N sc X) (hg : sc.names.lookup x = some .globalImplicit) (hm : G.mg x = none) (hv : bootBuiltins x = some u) (r : RelV v u) (rd : ∀ L H, Is G.K L H d v)
    (hn : x ≠ "__name__" := by decide +kernel) (hd : (x == ("__debug__" : Str)) = false := by decide +kernel) : PE X (.Name x pos) (tD G.K E (mC d)) := by
  obtain rfl := c.g
  exact ce_c (pe_bltn (show X.env.scope.names.lookup x = _ by rw [c.scq]; exact hg) hm hv r hn hd) rd
def RS2 (K : PySem.W.Frag) (r : R2) (op : D → D → Mem → Res D) : Prop := ∀ (E : XK) (L : Wd) (H : Hp) (M : Mem) (d e : D) (x y : V) (Q : VK), MemIs K L H M → Is K L H d x → Is K L H e y → Fin (Is K) K E L H (op d e M) Q → r x y H Q
def RSC (K : PySem.W.Frag) (r : List V → Hp → VK → Prop) (f : MF) : Prop := ∀ (E : XK) (L : Wd) (H : Hp) (M : Mem) (ds : List D) (xs : List V) (Q : VK), MemIs K L H M → IsL K L H ds xs → Fin (Is K) K E L H (f ds M) Q → r xs H Q
def mBin (op : D → D → Mem → Res D) (ma mb : ME) : ME := fun env M => (ma env M).bind fun d M1 => (mb env M1).bind fun e M2 => op d e M2
def mUn (op : D → Mem → Res D) (ma : ME) : ME := fun env M => (ma env M).bind fun d M1 => op d M1
variable {a b : Expr} {ma mb : ME} {pos : Pos}
theorem op_sim {r : R2} {op : D → D → Mem → Res D} (hr : RS2 G.K r op) {σ : L2.St} {H : Hp} {Q : VK} (h : tD G.K E (mBin op ma mb) σ H Q) : tOp r (tD G.K E ma) (tD G.K E mb) σ H Q := by
  obtain ⟨env, L, M, he, hm, h⟩ := h
  refine ⟨env, L, M, he, hm, Fin.imp (Fin.bind h) fun x H1 ⟨d, M1, L1, s1, m1, r1, h1⟩ => ?_⟩
  refine ⟨env, L1, M1, he.step s1, m1, Fin.imp (Fin.bind h1) fun y H2 ⟨e, M2, L2, s2, m2, r2, h2⟩ => ?_⟩
  exact hr E L2 H2 M2 d e x y Q m2 (r1.step s2) r2 h2
theorem ce_op {o : Operator} {r : R2} {op : D → D → Mem → Res D} (ho : OpR X (binaryOp o) r) (hr : RS2 G.K r op) (ha : PE X a (tD G.K E ma)) (hb : PE X b (tD G.K E mb)) : PE X (.BinOp a o b pos) (tD G.K E (mBin op ma mb)) :=
  (pe_op ho ha hb).imp fun _ _ _ h => op_sim hr h
theorem ce_cmp {o : CmpOp} {r : R2} {op : D → D → Mem → Res D} (ho : OpR X (compareOp o) r) (hr : RS2 G.K r op) (ha : PE X a (tD G.K E ma)) (hb : PE X b (tD G.K E mb)) (hm : behindInMarks o b = false) : PE X (.Compare a [o] [b] pos) (tD G.K E (mBin op ma mb)) :=
  (pe_cmpR ho ha hb hm).imp fun _ _ _ h => op_sim hr h
def asB (r : Res D) : Res Bool := r.bind fun d M => match d with
  | .bl b => .ok b M
  | _ => .bad
def mTest (m : ME) : MT := fun env M => asB (m env M)
theorem test_sim {K : PySem.W.Frag} {L : Wd} {H : Hp} {r : Res D} {Q : Bool → Hp → Prop} (h : Fin RB K E L H (asB r) Q) : Fin (Is K) K E L H r (fun x H' => ∃ k, x = .bl k ∧ Q k H') := by
  refine Fin.imp (Fin.bind h) fun x H1 ⟨d, M1, L1, s1, m1, r1, h1⟩ => ?_
  cases r1 with
  | bl b => exact ⟨b, rfl, h1.end_ m1 rfl⟩
  | _ => exact h1.elim
theorem ct_cmp {o : CmpOp} {r : R2} {op : D → D → Mem → Res D} (ho : OpR X (compareOp o) r) (hr : RS2 G.K r op) (ha : PE X a (tD G.K E ma)) (hb : PE X b (tD G.K E mb)) (hm : behindInMarks o b = false) : PT X (.Compare a [o] [b] pos) (tTD G.K E (mTest (mBin op ma mb))) :=
  (pt_cmpR ho ha hb hm).imp fun _ _ _ ⟨env, L, M, he, hm, h⟩ => op_sim hr ⟨env, L, M, he, hm, test_sim h⟩
theorem ct_val {e : Expr} {m : ME} (h : PE X e (tD G.K E m)) (he : ∀ whole, isTrue e X.env whole = (do let v ← whole; standAt e.pos; holding [v] (truthy v)) := by intro _; rfl) : PT X e (tTD G.K E (mTest m)) :=
  (pt_val h he).imp fun _ _ _ ⟨env, L, M, he, hm, h⟩ => ⟨env, L, M, he, hm, test_sim h⟩
def mAndT (a b : MT) : MT := fun env M => (a env M).bind fun c M1 => if c then b env M1 else .ok false M1
def mOrT (a b : MT) : MT := fun env M => (a env M).bind fun c M1 => if c then .ok true M1 else b env M1
def mNotT (a : MT) : MT := fun env M => (a env M).bind fun c M1 => .ok (!c) M1
variable {ta tb : MT} {rest : List Expr}
theorem cw_one_and (h : PT X a (tTD G.K E ta)) : PW X (.BoolOp .And [a] pos) (tTD G.K E ta) := pw_and1 h
theorem cw_one_or (h : PT X a (tTD G.K E ta)) : PW X (.BoolOp .Or [a] pos) (tTD G.K E ta) := pw_or1 h
theorem and_sim {σ : L2.St} {H : Hp} {Q : Bool → Hp → Prop} (h : tTD G.K E (mAndT ta tb) σ H Q) : tAnd (tTD G.K E ta) (tTD G.K E tb) σ H Q := by
  obtain ⟨env, L, M, he, hm, h⟩ := h
  refine ⟨env, L, M, he, hm, Fin.imp (Fin.bind h) fun x H1 ⟨d, M1, L1, s1, m1, r1, h1⟩ => ?_⟩
  cases r1
  cases x with
  | true =>
    rw [if_pos rfl]
    exact ⟨env, L1, M1, he.step s1, m1, h1⟩
  | false =>
    rw [if_neg Bool.false_ne_true]
    exact h1.end_ m1 rfl
theorem or_sim {σ : L2.St} {H : Hp} {Q : Bool → Hp → Prop} (h : tTD G.K E (mOrT ta tb) σ H Q) : tOr (tTD G.K E ta) (tTD G.K E tb) σ H Q := by
  obtain ⟨env, L, M, he, hm, h⟩ := h
  refine ⟨env, L, M, he, hm, Fin.imp (Fin.bind h) fun x H1 ⟨d, M1, L1, s1, m1, r1, h1⟩ => ?_⟩
  cases r1
  cases x with
  | true =>
    rw [if_pos rfl]
    exact h1.end_ m1 rfl
  | false =>
    rw [if_neg Bool.false_ne_true]
    exact ⟨env, L1, M1, he.step s1, m1, h1⟩
theorem cw_and (ha : PT X a (tTD G.K E ta)) (hb : PW X (.BoolOp .And (b :: rest) pos) (tTD G.K E tb)) : PW X (.BoolOp .And (a :: b :: rest) pos) (tTD G.K E (mAndT ta tb)) :=
  (pw_and ha hb).imp fun _ _ _ h => and_sim h
theorem cw_or (ha : PT X a (tTD G.K E ta)) (hb : PW X (.BoolOp .Or (b :: rest) pos) (tTD G.K E tb)) : PW X (.BoolOp .Or (a :: b :: rest) pos) (tTD G.K E (mOrT ta tb)) :=
  (pw_or ha hb).imp fun _ _ _ h => or_sim h
theorem ct_not (ha : PT X a (tTD G.K E ta)) : PT X (.UnaryOp .Not a pos) (tTD G.K E (mNotT ta)) := by
  refine (pt_not ha).imp fun σ H Q ⟨env, L, M, he, hm, h⟩ => ?_
  refine ⟨env, L, M, he, hm, Fin.imp (Fin.bind h) fun x H1 ⟨d, M1, L1, s1, m1, r1, h1⟩ => ?_⟩
  cases r1
  exact h1.end_ m1 rfl
def mAndV (a b : ME) : ME := fun env M => (a env M).bind fun c M1 => match c with
  | .bl true => b env M1
  | .bl false => .ok (.bl false) M1
  | _ => .bad
def mNotV (a : ME) : ME := fun env M => (a env M).bind fun c M1 => match c with
  | .bl b => .ok (.bl (!b)) M1
  | _ => .bad
theorem ce_one {o} (h : PE X a (tD G.K E ma)) : PE X (.BoolOp o [a] pos) (tD G.K E ma) := pe_one h
theorem ce_and (ha : PE X a (tD G.K E ma)) (hb : PE X (.BoolOp .And (b :: rest) pos) (tD G.K E mb)) : PE X (.BoolOp .And (a :: b :: rest) pos) (tD G.K E (mAndV ma mb)) := by
  refine (pe_and ha hb).imp fun σ H Q ⟨env, L, M, he, hm, h⟩ => ?_
  refine ⟨env, L, M, he, hm, Fin.imp (Fin.bind h) fun x H1 ⟨d, M1, L1, s1, m1, r1, h1⟩ => ?_⟩
  cases r1 with
  | bl c =>
    refine ⟨c, rfl, ?_⟩
    cases c with
    | true =>
      rw [if_pos rfl]
      exact ⟨env, L1, M1, he.step s1, m1, h1⟩
    | false =>
      rw [if_neg Bool.false_ne_true]
      exact h1.end_ m1 (.bl false)
  | _ => exact h1.elim
theorem ce_not (ha : PE X a (tD G.K E ma)) : PE X (.UnaryOp .Not a pos) (tD G.K E (mNotV ma)) := by
  refine (pe_not ha).imp fun σ H Q ⟨env, L, M, he, hm, h⟩ => ?_
  refine ⟨env, L, M, he, hm, Fin.imp (Fin.bind h) fun x H1 ⟨d, M1, L1, s1, m1, r1, h1⟩ => ?_⟩
  cases r1 with
  | bl c => exact ⟨c, rfl, h1.end_ m1 (.bl _)⟩
  | _ => exact h1.elim
def mIf (t : MT) (a b : ME) : ME := fun env M => (t env M).bind fun c M1 => if c then a env M1 else b env M1
def mNil : MA := fun _ M => .ok [] M
def mCons (a : ME) (r : MA) : MA := fun env M => (a env M).bind fun d M1 => (r env M1).bind fun ds M2 => .ok (d :: ds) M2
variable {es : List Expr} {mr : MA}
theorem ca_nil : PA X [] (tAD G.K E mNil) := pa_nil.imp fun σ H Q ⟨env, L, M, he, hm, h⟩ => h.end_ hm .nil
theorem ca_cons (ha : PE X a (tD G.K E ma)) (hr : PA X es (tAD G.K E mr)) (hs : starEach (a :: es) X.env = (false, eval a X.env) :: starEach es X.env := by rfl) : PA X (a :: es) (tAD G.K E (mCons ma mr)) := by
  refine (pa_cons ha hr hs).imp fun σ H Q ⟨env, L, M, he, hm, h⟩ => ?_
  refine ⟨env, L, M, he, hm, Fin.imp (Fin.bind h) fun x H1 ⟨d, M1, L1, s1, m1, r1, h1⟩ => ?_⟩
  refine ⟨env, L1, M1, he.step s1, m1, Fin.imp (Fin.bind h1) fun y H2 ⟨e, M2, L2, s2, m2, r2, h2⟩ => ?_⟩
  exact h2.end_ m2 (.cons (r1.step s2) r2)
def szOk (n : Nat) : Bool := decide (n ≤ 100000)
theorem szOk.le {n : Nat} (h : szOk n = true) : n ≤ sizeLine := Nat.le_trans (of_decide_eq_true h) (by decide)
theorem szOk.lt {n : Nat} (h : szOk n = true) : n < sizeLine := Nat.lt_of_le_of_lt (of_decide_eq_true h) (by decide)
def mTup (r : MA) : ME := fun env M => (r env M).bind fun ds M1 => if szOk ds.length then .ok (.tup ds) M1 else .bad
def mLst (r : MA) : ME := fun env M => (r env M).bind fun ds M1 => if szOk ds.length then .ok (.lst ds) M1 else .bad
def mLstC (r : MA) : ME := fun env M => (r env M).bind fun ds M1 => if szOk ds.length then .ok (.ref M1.length) (M1 ++ [.lst ds]) else .bad
theorem ce_tup {x1} (h : PA X es (tAD G.K E mr)) : PE X (.Tuple es x1 pos) (tD G.K E (mTup mr)) := by
  refine (pe_tup h).imp fun σ H Q ⟨env, L, M, he, hm, h⟩ => ?_
  refine ⟨env, L, M, he, hm, Fin.imp (Fin.bind h) fun x H1 ⟨d, M1, L1, s1, m1, r1, h1⟩ => ?_⟩
  split at h1
  · rename_i hz
    refine ⟨by rw [← r1.length]; exact szOk.le hz, fun p hp => ?_⟩
    have st := Step.new (o := .tup x) m1 hp
    exact h1 L1 _ _ st.1 (m1.new hp) (.tup upd_same st.2 (r1.step st.1))
  · exact h1.elim
theorem ce_lst (h : PA X es (tAD G.K E mr)) : PE X (.List es pos) (tD G.K E (mLst mr)) := by
  refine (pe_lst h).imp fun σ H Q ⟨env, L, M, he, hm, h⟩ => ?_
  refine ⟨env, L, M, he, hm, Fin.imp (Fin.bind h) fun x H1 ⟨d, M1, L1, s1, m1, r1, h1⟩ => ?_⟩
  split at h1
  · rename_i hz
    refine ⟨by rw [← r1.length]; exact szOk.le hz, fun p hp => ?_⟩
    have st := Step.new (o := .lst x) m1 hp
    exact h1 L1 _ _ st.1 (m1.new hp) (.lst upd_same st.2 (r1.step st.1))
  · exact h1.elim
theorem ce_lstC (h : PA X es (tAD G.K E mr)) : PE X (.List es pos) (tD G.K E (mLstC mr)) := by
  refine (pe_lst h).imp fun σ H Q ⟨env, L, M, he, hm, h⟩ => ?_
  refine ⟨env, L, M, he, hm, Fin.imp (Fin.bind h) fun x H1 ⟨d, M1, L1, s1, m1, r1, h1⟩ => ?_⟩
  split at h1
  · rename_i hz
    refine ⟨by rw [← r1.length]; exact szOk.le hz, fun p hp => ?_⟩
    have st := Step.cell (o := .lst x) m1 hp
    refine h1 (L1.add p) _ _ st (m1.push hp ⟨x, upd_same, r1.step st⟩) (.ref ?_)
    rw [← m1.len]
    simp [Wd.add]
  · exact h1.elim
end
end Ly
namespace Ly
open PySem PySem.Spec PyProof.Rows L2
section
variable {G : Gd} {k : Nat} {E : XK} {N : List Str} {sc : Scope} {X : Cx} {a b e : Expr} {ma mb : ME} {pos : Pos} {st : Stmt} {rest : List Stmt} {m m' : MS}
def mSeq (a b : MS) : MS := fun env M => match a env M with
  | .nx env' M' => b env' M'
  | r => r
def mNext : MS := fun env M => .nx env M
theorem css_nil : PSs X [] (sD G.K E mNext) := pss_nil.imp fun T σ H ⟨env, L, M, he, hm, h⟩ => h L H σ Step.refl hm he
theorem css_one (h : PS X st (sD G.K E m)) : PSs X [st] (sD G.K E m) := pss_one h
theorem css_cons (h1 : PS X st (sD G.K E m)) (h2 : PSs X rest (sD G.K E m')) : PSs X (st :: rest) (sD G.K E (mSeq m m')) := by
  refine (pss_cons h1 h2).imp fun T σ H ⟨env, L, M, he, hm, h⟩ => ⟨env, L, M, he, hm, ?_⟩
  unfold mSeq at h
  split at h
  · rename_i env' M' q
    rw [q]
    exact fun L' H' σ' s m1 e1 => ⟨env', L', M', e1, m1, h.step s⟩
  · rename_i r q
    revert h
    cases r : m env M with
    | nx env' M' => exact (q env' M' r).elim
    | rt d M' => exact id
    | bk d M' => exact id
    | ct d M' => exact id
    | exc x M' => exact id
    | bad => exact id
def mDrop (a : ME) : MS := fun env M => (a env M).bindS fun _ M1 => .nx env M1
def mRet (a : ME) : MS := fun env M => (a env M).bindS fun d M1 => .rt d M1
def mRetN : MS := fun _ M => .rt .non M
theorem cs_expr (h : PE X e (tD G.K E ma)) (hs : swapsWith e none pos.line X.env = pure false := by rfl) : PS X (.Expr e pos) (sD G.K E (mDrop ma)) := by
  refine (ps_expr h hs).imp fun T σ H ⟨env, L, M, he, hm, h⟩ => ⟨env, L, M, he, hm, Fin.imp (Fin.bindS h) fun v H1 ⟨d, M1, L1, s1, m1, r1, h1⟩ => ?_⟩
  exact h1 L1 H1 σ Step.refl m1 (he.step s1)
theorem cs_ret (h : PE X e (tD G.K E ma)) : PS X (.Return (some e) pos) (sD G.K E (mRet ma)) := by
  refine (ps_ret h).imp fun T σ H ⟨env, L, M, he, hm, h⟩ => ⟨env, L, M, he, hm, Fin.imp (Fin.bindS h) fun v H1 ⟨d, M1, L1, s1, m1, r1, h1⟩ => ?_⟩
  exact h1 L1 H1 v Step.refl m1 r1
def mIfS (t : MT) (a b : MS) : MS := fun env M => (t env M).bindS fun c M1 => if c then a env M1 else b env M1
theorem cs_if {c : Expr} {x y : List Stmt} {t : MT} (hc : PT X c (tTD G.K E t)) (ha : PSs X x (sD G.K E m)) (hb : PSs X y (sD G.K E m')) : PS X (.If c x y pos) (sD G.K E (mIfS t m m')) := by
  refine (ps_if hc ha hb).imp fun T σ H ⟨env, L, M, he, hm, h⟩ => ⟨env, L, M, he, hm, Fin.imp (Fin.bindS h) fun v H1 ⟨d, M1, L1, s1, m1, r1, h1⟩ => ?_⟩
  cases r1
  cases v with
  | true =>
    rw [if_pos rfl]
    exact ⟨env, L1, M1, he.step s1, m1, h1⟩
  | false =>
    rw [if_neg Bool.false_ne_true]
    exact ⟨env, L1, M1, he.step s1, m1, h1⟩
structure GD where
  f : D → Env → Option Env
  sl : List Nat
structure Chg (sl : List Nat) (σ σ' : L2.St) : Prop where
  len : σ'.length = σ.length
  at_ : ∀ i, i ∉ sl → σ'[i]? = σ[i]?
def gtD (K : PySem.W.Frag) (g : GD) : TG := fun v σ H Q => ∃ env L M d env', EnvIs K L H env σ ∧ MemIs K L H M ∧ Is K L H d v ∧ g.f d env = some env' ∧ ∀ H' σ', Step L H L H' → MemIs K L H' M → EnvIs K L H' env' σ' → Chg g.sl σ σ' → Q σ' H'
def gN (i : Nat) : GD := ⟨fun d env => some (env.set i (some d)), [i]⟩
theorem Chg.set {σ : L2.St} {i : Nat} {v : Option V} : Chg [i] σ (σ.set i v) := ⟨List.length_set, fun j h => List.getElem?_set_ne (fun z => h (by simp [z]))⟩
theorem Chg.trans {sl sl' : List Nat} {σ σ1 σ2 : L2.St} (a : Chg sl σ σ1) (b : Chg sl' σ1 σ2) : Chg (sl ++ sl') σ σ2 :=
  ⟨b.len.trans a.len, fun i h => (b.at_ i fun z => h (List.mem_append_right _ z)).trans (a.at_ i fun z => h (List.mem_append_left _ z))⟩
theorem Chg.refl {σ : L2.St} : Chg [] σ σ := ⟨rfl, fun _ _ => rfl⟩
theorem cg_name {i : Nat} {x : Str} (c : Cq G k E N sc X) (hi : N[i]? = some x) (hx : Loc sc x) (hf : X.fn x = true ∨ sc.names.lookup x = some NameKind.local) : PG X (.Name x pos) (gtD G.K (gN i)) := by
  refine (pg_name (i := i) (by rw [c.n]; exact c.nd) (by rw [c.n]; exact hi) (by rw [c.scq]; exact hx) (by rw [c.scq]; exact hf)).imp fun v σ H Q ⟨env, L, M, d, env', he, hm, r, q, h⟩ => ?_
  cases q
  exact h H _ Step.refl hm (he.set i r) Chg.set
def gTs : List GD → List D → Env → Option Env
  | [], [], env => some env
  | g :: gs, d :: ds, env => (g.f d env).bind fun env' => gTs gs ds env'
  | _, _, _ => none
def slots : List GD → List Nat
  | [] => []
  | g :: gs => g.sl ++ slots gs
def gTf (gs : List GD) (d : D) (env : Env) : Option Env := match d with
  | .tup ds => gTs gs ds env
  | .ftu ds => gTs gs ds env
  | _ => none
def gT (gs : List GD) : GD := ⟨gTf gs, slots gs⟩
def gsD (K : PySem.W.Frag) (gs : List GD) : TGs := fun vs σ H Q => ∃ env L M ds env', EnvIs K L H env σ ∧ MemIs K L H M ∧ IsL K L H ds vs ∧ gTs gs ds env = some env' ∧ ∀ H' σ', Step L H L H' → MemIs K L H' M → EnvIs K L H' env' σ' → Chg (slots gs) σ σ' → Q σ' H'
variable {es : List Expr} {g : GD} {gs : List GD}
theorem cgs_nil : PGs X [] (gsD G.K []) := by
  refine ⟨fun pins s σ H vs us Q I r ⟨env, L, M, ds, env', he, hm, rl, q, h⟩ => pgs_nil.run pins s σ H vs us Q I r ?_⟩
  cases rl with
  | nil =>
    cases q
    exact ⟨rfl, h H σ Step.refl hm he Chg.refl⟩
  | cons _ _ => cases q
theorem cgs_cons (h1 : PG X e (gtD G.K g)) (h2 : PGs X es (gsD G.K gs)) (hs : (assignEach (e :: es) X.env).map (·.2) = assign e X.env :: (assignEach es X.env).map (·.2) := by rfl) : PGs X (e :: es) (gsD G.K (g :: gs)) := by
  refine ⟨fun pins s σ H vs us Q I r ⟨env, L, M, ds, env', he, hm, rl, q, h⟩ => (pgs_cons h1 h2 hs).run pins s σ H vs us Q I r ?_⟩
  cases rl with
  | nil => cases q
  | @cons d v ds vs r1 rs =>
    have q' : (g.f d env).bind (fun env' => gTs gs ds env') = some env' := q
    cases ge : g.f d env with
    | none =>
      rw [ge] at q'
      cases q'
    | some env1 =>
      rw [ge] at q'
      exact ⟨v, vs, rfl, env, L, M, d, env1, he, hm, r1, ge, fun H1 σ' s1 m1 e1 c1 => ⟨env1, L, M, ds, env', e1, m1, rs.step s1, q', fun H2 σ2 s2 m2 e2 c2 => h H2 σ2 (s1.trans s2) m2 e2 (c1.trans c2)⟩⟩
theorem Is.tup_inv {K : PySem.W.Frag} {L : Wd} {H : Hp} {ds : List D} {v : V} (h : Is K L H (.tup ds) v) : ∃ a vs, v = .ref a ∧ SqT K H a vs ∧ IsL K L H ds vs := by
  cases h with
  | tup h n r => exact ⟨_, _, rfl, .inl (.inl h), r⟩
  | tupK h r => exact ⟨_, _, rfl, .inr h, r⟩
theorem Is.ftu_inv {K : PySem.W.Frag} {L : Wd} {H : Hp} {ds : List D} {v : V} (h : Is K L H (.ftu ds) v) : ∃ a vs, v = .ref a ∧ SqT K H a vs ∧ IsL K L H ds vs := by
  cases h with
  | ftu h _ n r => exact ⟨_, _, rfl, .inl (.inr ⟨_, h⟩), r⟩
theorem Is.lst_inv {K : PySem.W.Frag} {L : Wd} {H : Hp} {ds : List D} {v : V} (h : Is K L H (.lst ds) v) : ∃ a vs, v = .ref a ∧ H a = some (.lst vs) ∧ Out L a ∧ IsL K L H ds vs := by
  cases h with
  | lst h n r => exact ⟨_, _, rfl, h, n, r⟩
theorem Is.scr_inv {K : PySem.W.Frag} {L : Wd} {H : Hp} {ds : List D} {v : V} (h : Is K L H (.scr ds) v) : ∃ a vs, v = .ref a ∧ SqL K H a vs ∧ IsL K L H ds vs := by
  cases h with
  | scr h n r => exact ⟨_, _, rfl, .inl h, r⟩
  | scrK h r => exact ⟨_, _, rfl, .inr h, r⟩
theorem cg_tup {kk : Nat} {n : Nat} (c : Cq G k E N sc X) (h : PGs X es (gsD G.K gs)) (hn : (assignEach es X.env).length = n := by rfl) (hl : gs.length = n := by rfl) (hst : (assignEach es X.env).findIdx? (·.1) = none := by rfl) : PG X (.Tuple es kk pos) (gtD G.K (gT gs)) := by
  obtain rfl := c.g
  refine (pg_tup c.calm h hn hst).imp fun v σ H Q ⟨env, L, M, d, env', he, hm, r, q, h⟩ => ?_
  replace q : gTf gs d env = some env' := q
  unfold gTf at q
  obtain ⟨ds, a, vs, rfl, hq, rl, q⟩ : ∃ ds a vs, v = V.ref a ∧ SqT X.K H a vs ∧ IsL X.K L H ds vs ∧ gTs gs ds env = some env' := by
    split at q
    · obtain ⟨a, vs, e, hq, rl⟩ := r.tup_inv
      exact ⟨_, a, vs, e, hq, rl, q⟩
    · obtain ⟨a, vs, e, hq, rl⟩ := r.ftu_inv
      exact ⟨_, a, vs, e, hq, rl, q⟩
    · cases q
  have len : ∀ (gs : List GD) (ds : List D) (env : Env), gTs gs ds env = some env' → ds.length = gs.length := by
    intro gs
    induction gs with
    | nil =>
      intro ds env q
      cases ds with
      | nil => rfl
      | cons _ _ => cases q
    | cons g gs ih =>
      intro ds env q
      cases ds with
      | nil => cases q
      | cons d ds =>
        have q' : (g.f d env).bind (fun env' => gTs gs ds env') = some env' := q
        cases ge : g.f d env with
        | none =>
          rw [ge] at q'
          cases q'
        | some env1 =>
          rw [ge] at q'
          rw [List.length_cons, List.length_cons, ih ds env1 q']
  exact ⟨a, vs, rfl, hq, by rw [← rl.length, len gs ds env q, hl], env, L, M, ds, env', he, hm, rl, q, h⟩
def mAsg (a : ME) (g : GD) : MS := fun env M => (a env M).bindS fun d M1 => match g.f d env with
  | some env' => .nx env' M1
  | none => .bad
theorem cs_set {i : Nat} {x : Str} {pos' : Pos} (c : Cq G k E N sc X) (hi : N[i]? = some x) (hx : Loc sc x) (hf : X.fn x = true ∨ sc.names.lookup x = some NameKind.local) (h : PE X e (tD G.K E ma)) (hs : swapsWith e (some (.Name x pos')) pos.line X.env = pure false := by rfl) :
    PS X (.Assign [.Name x pos'] e pos) (sD G.K E (mAsg ma (gN i))) := by
  refine (ps_set (i := i) (by rw [c.n]; exact c.nd) (by rw [c.n]; exact hi) (by rw [c.scq]; exact hx) h hs (by rw [c.scq]; exact hf)).imp fun T σ H ⟨env, L, M, he, hm, h⟩ => ?_
  refine ⟨env, L, M, he, hm, Fin.imp (Fin.bindS h) fun v H1 ⟨d, M1, L1, s1, m1, r1, h1⟩ => ?_⟩
  exact h1 L1 H1 _ Step.refl m1 ((he.step s1).set i r1)
structure Itm where
  items : List D
  chk : Mem → Prop
abbrev MI := Env → Mem → Res Itm
def ItIs (K : PySem.W.Frag) (L : Wd) (H : Hp) (t : Itm) (J : It) : Prop := ∀ (L' : Wd) (H' : Hp) (M' : Mem), Mv L H L' H' → MemIs K L' H' M' → t.chk M' →
  ∀ i : Nat, (∀ d, t.items[i]? = some d → J.go i H' ∧ ∀ x H'', J.yld i H' x H'' → Step L' H' L' H'' ∧ MemIs K L' H'' M' ∧ Is K L' H'' d x) ∧ (t.items.length = i → J.stop i H')
def tID (K : PySem.W.Frag) (E : XK) (m : MI) : TI := fun σ H R => ∃ env L M, EnvIs K L H env σ ∧ MemIs K L H M ∧ Fin (ItIs K) K E L H (m env M) R
def ResS.loop (r : ResS) (f : Env → Mem → ResS) : ResS := match r with
  | .nx e1 M1 => f e1 M1
  | .ct e1 M1 => f e1 M1
  | .bk e1 M1 => .nx e1 M1
  | .rt d1 M1 => .rt d1 M1
  | .exc x M1 => .exc x M1
  | .bad => .bad
open Classical in
noncomputable def loopS (g : GD) (mb : MS) (chk : Mem → Prop) : List D → Env → Mem → ResS
  | [], env, M => if chk M then .nx env M else .bad
  | d :: ds, env, M => if chk M then (match g.f d env with
      | some env' => (mb env' M).loop fun e1 M1 => loopS g mb chk ds e1 M1
      | none => .bad) else .bad
noncomputable def mFor (mi : MI) (g : GD) (mb : MS) : MS := fun env M => (mi env M).bindS fun t M1 => loopS g mb t.chk t.items env M1
theorem cs_for {tg iter : Expr} {body : List Stmt} {mi : MI} (c : Cq G k E N sc X) (hi : PI X tg iter (tID G.K E mi)) (hg : PG X tg (gtD G.K g)) (hb : PSs X body (sD G.K E m)) (hs : ∀ x, foldedSetIterable iter X.env x = pure x := by intro _; rfl) :
    PS X (.For tg iter body [] pos) (sD G.K E (mFor mi g m)) := by
  refine (ps_for c.po c.calm hi hg hb hs).imp fun T σ H ⟨env, L, M, he, hm, h⟩ => ?_
  refine ⟨env, L, M, he, hm, Fin.imp (Fin.bindS h) fun J H1 ⟨t, M1, L1, s1, m1, r1, h1⟩ => ?_⟩
  refine ⟨fun i n σ' H' => ∃ env' L' M', n = t.items.length - i ∧ i ≤ t.items.length ∧ Step L1 H1 L' H' ∧ EnvIs G.K L' H' env' σ' ∧ MemIs G.K L' H' M' ∧ FinS G.K E L' H' (loopS g m t.chk (t.items.drop i) env' M') T,
    ⟨_, env, L1, M1, rfl, Nat.zero_le _, Step.refl, he.step s1, m1, h1⟩, ?_⟩
  rintro i n σ' H' ⟨env', L', M', rfl, hi', s2, e2, m2, h2⟩
  by_cases hlt : i < t.items.length
  · rw [List.drop_eq_getElem_cons hlt] at h2
    unfold loopS at h2
    split at h2
    · rename_i hc
      have it := r1 L' H' M' s2.mv m2 hc i
      obtain ⟨go, yl⟩ := it.1 _ (List.getElem?_eq_getElem hlt)
      refine .inr ⟨go, fun σ3 H3 => ∃ env3 L3 M3, Step L1 H1 L3 H3 ∧ EnvIs G.K L3 H3 env3 σ3 ∧ MemIs G.K L3 H3 M3 ∧ FinS G.K E L3 H3 (loopS g m t.chk (t.items.drop (i + 1)) env3 M3) T, fun σ3 H3 ⟨env3, L3, M3, s3, e3, m3, h3⟩ => ⟨_, by omega, env3, L3, M3, rfl, hlt, s3, e3, m3, h3⟩, fun x H3 y => ?_⟩
      obtain ⟨s3, m3, r3⟩ := yl x H3 y
      cases q : g.f t.items[i] env' with
      | none =>
        rw [q] at h2
        exact h2.elim
      | some env3 =>
        rw [q] at h2
        refine ⟨env', L', M', _, env3, e2.step s3, m3, r3, q, fun H4 σ4 s4 m4 e4 _ => ⟨env3, L', M', e4, m4, ?_⟩⟩
        have h2 : FinS G.K E L' H4 ((m env3 M').loop fun e1 M1 => loopS g m t.chk (t.items.drop (i + 1)) e1 M1) T := h2.step (s3.trans s4)
        generalize m env3 M' = r at h2 ⊢
        revert h2
        cases r with
        | nx e5 M5 => exact fun h2 L5 H5 σ5 s5 m5 q5 => ⟨e5, L5, M5, ((s2.trans s3).trans s4).trans s5, q5, m5, FinS.step s5 h2⟩
        | ct e5 M5 => exact fun h2 L5 H5 σ5 s5 m5 q5 => ⟨e5, L5, M5, ((s2.trans s3).trans s4).trans s5, q5, m5, FinS.step s5 h2⟩
        | bk e5 M5 => exact fun h2 => h2
        | rt d5 M5 => exact fun h2 => h2
        | exc d5 M5 => exact fun h2 => h2
        | bad => exact fun h2 => h2
    · exact h2.elim
  · have e : i = t.items.length := by omega
    subst e
    rw [List.drop_length] at h2
    unfold loopS at h2
    split at h2
    · rename_i hc
      exact .inl ⟨(r1 L' H' M' s2.mv m2 hc _).2 rfl, h2 L' H' σ' Step.refl m2 e2⟩
    · exact h2.elim
end
end Ly
namespace Ly
open PySem PySem.Spec PyProof.Rows L2
def wipeD (env : Env) : List Nat → Env
  | [] => env
  | v :: vs => (wipeD env vs).set v none
theorem EnvIs.wipe {K : PySem.W.Frag} {L : Wd} {H : Hp} {env : Env} {σ : L2.St} (h : EnvIs K L H env σ) : ∀ vs : List Nat, EnvIs K L H (wipeD env vs) (L2.wipe σ vs)
  | [] => h
  | v :: vs => by
    have ih := EnvIs.wipe h vs
    refine ⟨by unfold wipeD L2.wipe; rw [List.length_set, List.length_set, ih.len], fun j e q => ?_⟩
    unfold wipeD at q
    by_cases hj : v = j
    · subst hj
      have hlt : v < (wipeD env vs).length := by
        have := (List.getElem?_eq_some_iff.mp q).1
        rwa [List.length_set] at this
      rw [List.getElem?_set_self hlt] at q
      cases q
    · rw [List.getElem?_set_ne hj] at q
      obtain ⟨w, a, b⟩ := ih.at_ j e q
      exact ⟨w, by unfold L2.wipe; rw [List.getElem?_set_ne hj]; exact a, b⟩
theorem wipe_at {σ : L2.St} : ∀ (vs : List Nat) (i : Nat), (L2.wipe σ vs)[i]? = if i ∈ vs then (if i < σ.length then some none else none) else σ[i]?
  | [], i => by simp [L2.wipe]
  | v :: vs, i => by
    unfold L2.wipe
    by_cases hj : v = i
    · subst hj
      rw [if_pos List.mem_cons_self]
      by_cases hl : v < σ.length
      · rw [if_pos hl, List.getElem?_set_self (by rw [L2.wipe_length]; exact hl)]
      · rw [if_neg hl]
        exact List.getElem?_eq_none_iff.mpr (by rw [List.length_set, L2.wipe_length]; omega)
    · rw [List.getElem?_set_ne hj, wipe_at vs i]
      have : (i ∈ v :: vs) ↔ i ∈ vs := by
        rw [List.mem_cons]
        exact ⟨fun z => z.elim (fun z => absurd z.symm hj) id, Or.inr⟩
      simp only [this]
theorem wipe_chg {σ σ' : L2.St} {sl vs : List Nat} (c : Chg sl (L2.wipe σ vs) σ') (hs : ∀ i ∈ sl, i ∈ vs) : L2.wipe σ' vs = L2.wipe σ vs := by
  refine List.ext_getElem? fun i => ?_
  rw [wipe_at, wipe_at]
  by_cases h : i ∈ vs
  · rw [if_pos h, if_pos h, c.len, L2.wipe_length]
  · rw [if_neg h, if_neg h, c.at_ i (fun z => h (hs i z)), wipe_at, if_neg h]
section
variable {G : Gd} {k : Nat} {E : XK} {N : List Str} {sc : Scope} {X : Cx} {a b e : Expr} {ma mb : ME} {pos : Pos}
theorem cq_blk {scope : Scope} (c : Cq G k E N sc X) (hk : scope.kind = ScopeKind.function) (s : Shared) (H : Hp) (C : Addr) (cl : List (Str × Addr)) (fp : List Addr) : Cq G k E0 N (relS scope sc) (X.blk s H scope (compEnvC scope cl C X.env) fp) := by
  obtain rfl := c.g
  refine ⟨rfl, c.n, c.nd, ?_, c.calm, c.room, passL, PassesOwn.never, hk, c.gd⟩
  rw [← c.scq]
  rfl
def noX {α : Type} (r : Res α) : Res α := match r with
  | .exc _ _ => .bad
  | r => r
theorem Fin.noX {α β : Type} {Rl : Wd → Hp → α → β → Prop} {K : PySem.W.Frag} {L : Wd} {H : Hp} {r : Res α} {Q : β → Hp → Prop} (h : Fin Rl K E L H (Ly.noX r) Q) : Fin Rl K E0 L H r Q := by
  cases r with
  | ok a M => exact h
  | exc x M => exact h.elim
  | bad => exact h
open Classical in
noncomputable def compL (g : GD) (t : MT) (el : ME) (chk : Mem → Prop) (env : Env) : List D → List D → Mem → Res (List D)
  | [], acc, M => if chk M then .ok acc M else .bad
  | d :: ds, acc, M => if chk M then (match g.f d env with
      | some env' => (noX (t env' M)).bind fun c M1 => if c then (noX (el env' M1)).bind fun y M2 => if szOk (acc.length + 1) then compL g t el chk env ds (acc ++ [y]) M2 else .bad else compL g t el chk env ds acc M1
      | none => .bad) else .bad
noncomputable def mLc (mi : MI) (g : GD) (t : MT) (el : ME) (vs : List Nat) : ME := fun env M => (mi env M).bind fun it M1 => (compL g t el it.chk (wipeD env vs) it.items [] M1).bind fun ds M2 => .ok (.lst ds) M2
def mYes : MT := fun _ M => .ok true M
theorem cts_nil : PTs X [] (tTD G.K E mYes) := ⟨fun pins s σ H Q I ⟨env, L, M, he, hm, h⟩ => pts_nil.run pins s σ H Q I (h.end_ hm rfl)⟩
theorem cts_one {t : MT} (h : PT X e (tTD G.K E t)) : PTs X [e] (tTD G.K E t) := pts_one h
theorem lc_sim {mi : MI} {g : GD} {t : MT} {el : ME} {vs : List Nat} (hsl : ∀ i ∈ g.sl, i ∈ vs) {σ : L2.St} {H : Hp} {Q : VK} (h : tD G.K E (mLc mi g t el vs) σ H Q) :
    tLc (tID G.K E mi) (gtD G.K g) (tTD G.K E0 t) (tD G.K E0 el) vs σ H Q := by
  obtain ⟨env, L, M, he, hm, h⟩ := h
  refine ⟨env, L, M, he, hm, Fin.imp (Fin.bind h) fun J H1 ⟨it, M1, L1, s1, m1, r1, h1⟩ p hp => ?_⟩
  have e1 := he.step s1
  have op := m1.out hp
  refine ⟨fun i n H' => ∃ L' M' acc avs, n = it.items.length - i ∧ i ≤ it.items.length ∧ Step L1 H1 L' H' ∧ MemIs G.K (L'.hide p) H' M' ∧ H' p = some (.lst avs) ∧ IsL G.K (L'.hide p) H' acc avs ∧
      Fin (Is G.K) G.K E L1 H1 ((compL g t el it.chk (wipeD env vs) (it.items.drop i) acc M').bind fun ds M2 => .ok (.lst ds) M2) Q,
    ⟨_, L1, M1, [], [], rfl, Nat.zero_le _, (Step.new m1 hp).1, m1.hide hp, upd_same, .nil, h1⟩, ?_⟩
  rintro i n H2 ⟨L2, M2, acc, avs, rfl, hi', s2, m2, q2, a2, h2⟩
  have mv2 : Mv L1 H1 (L2.hide p) H2 := s2.mvHide hp
  by_cases hlt : i < it.items.length
  · rw [List.drop_eq_getElem_cons hlt] at h2
    unfold compL at h2
    split at h2
    · rename_i hc
      have itx := r1 (L2.hide p) H2 M2 mv2 m2 hc i
      obtain ⟨go, yl⟩ := itx.1 _ (List.getElem?_eq_getElem hlt)
      refine .inr ⟨go, fun H3 => ∃ L' M' acc avs, Step L1 H1 L' H3 ∧ MemIs G.K (L'.hide p) H3 M' ∧ H3 p = some (.lst avs) ∧ IsL G.K (L'.hide p) H3 acc avs ∧
        Fin (Is G.K) G.K E L1 H1 ((compL g t el it.chk (wipeD env vs) (it.items.drop (i + 1)) acc M').bind fun ds M2 => .ok (.lst ds) M2) Q, fun H3 ⟨L', M', acc, avs, x1, x2, x3, x4, x5⟩ => ⟨_, by omega, L', M', acc, avs, rfl, hlt, x1, x2, x3, x4, x5⟩, fun x H3 y => ?_⟩
      obtain ⟨s3, m3, r3⟩ := yl x H3 y
      cases q : g.f it.items[i] (wipeD env vs) with
      | none =>
        rw [q] at h2
        exact h2.elim
      | some env3 =>
        rw [q] at h2
        refine ⟨wipeD env vs, L2.hide p, M2, _, env3, ((e1.mv mv2).step s3).wipe vs, m3, r3, q, fun H4 σ4 s4 m4 e4 c4 => ⟨wipe_chg c4 hsl, env3, L2.hide p, M2, e4, m4, ?_⟩⟩
        replace s3 := s3.trans s4
        replace h2 : Fin (Is G.K) G.K E L1 H1 (((noX (t env3 M2)).bind fun c M1 => if c then (noX (el env3 M1)).bind fun y M2 => if szOk (acc.length + 1) then compL g t el it.chk (wipeD env vs) (it.items.drop (i + 1)) (acc ++ [y]) M2 else .bad else compL g t el it.chk (wipeD env vs) (it.items.drop (i + 1)) acc M1).bind fun ds M2 => .ok (.lst ds) M2) Q := h2
        obtain ⟨s23, e23, s23'⟩ := s2.over hp s3
        cases ht : t env3 M2 with
        | bad =>
          rw [ht] at h2
          exact h2.elim
        | exc x M =>
          rw [ht] at h2
          exact h2.elim
        | ok c M4 =>
          rw [ht] at h2
          intro L5 H5 b5 s5 m5 r5
          cases r5
          obtain ⟨L5', rfl, s15⟩ := s2.over hp (s3.trans s5)
          have q5 : H5 p = some (.lst avs) := ((s3.trans s5).hid p List.mem_cons_self).trans q2
          have a5 := a2.step (s3.trans s5)
          cases c with
          | false =>
            rw [if_neg Bool.false_ne_true]
            exact ⟨L5', M4, acc, avs, s15, m5, q5, a5, h2⟩
          | true =>
            rw [if_pos rfl]
            refine ⟨env3, L5'.hide p, M4, e4.step s5, m5, ?_⟩
            replace h2 : Fin (Is G.K) G.K E L1 H1 (((noX (el env3 M4)).bind fun y M2 => if szOk (acc.length + 1) then compL g t el it.chk (wipeD env vs) (it.items.drop (i + 1)) (acc ++ [y]) M2 else .bad).bind fun ds M2 => .ok (.lst ds) M2) Q := h2
            cases hy : el env3 M4 with
            | bad =>
              rw [hy] at h2
              exact h2.elim
            | exc x M =>
              rw [hy] at h2
              exact h2.elim
            | ok yd M6 =>
              rw [hy] at h2
              intro L7 H7 yv s7 m7 r7
              obtain ⟨L7', rfl, s17⟩ := s2.over hp ((s3.trans s5).trans s7)
              have q7 : H7 p = some (.lst avs) := (((s3.trans s5).trans s7).hid p List.mem_cons_self).trans q2
              have a7 := a2.step ((s3.trans s5).trans s7)
              replace h2 : Fin (Is G.K) G.K E L1 H1 ((if szOk (acc.length + 1) then compL g t el it.chk (wipeD env vs) (it.items.drop (i + 1)) (acc ++ [yd]) M6 else .bad).bind fun ds M2 => .ok (.lst ds) M2) Q := h2
              split at h2
              · rename_i hz
                refine ⟨avs, q7, ?_, L7', M6, acc ++ [yd], avs ++ [yv], s17.built op.2 hp, m7.built, upd_same, (a7.append (.cons r7 .nil)).mv Mv.built, h2⟩
                have := szOk.le hz
                rw [a7.length] at this
                omega
              · exact h2.elim
    · exact h2.elim
  · have e : i = it.items.length := by omega
    subst e
    rw [List.drop_length] at h2
    unfold compL at h2
    split at h2
    · rename_i hc
      refine .inl ⟨(r1 (L2.hide p) H2 M2 mv2 m2 hc _).2 rfl, h2 L2 H2 _ s2 m2.show (.lst q2 ⟨(m2.hid p List.mem_cons_self).1, ?_⟩ (a2.mv Mv.show))⟩
      rw [s2.same]
      exact op.2
    · exact h2.elim
theorem ce_lc {elt tg iter : Expr} {ifs : List Expr} {scope : Scope} {own : List (Str × Nat)} {mi : MI} {g : GD} {t : MT} {el : ME} (c : Cq G k E N sc X) (hi : PI X tg iter (tID G.K E mi)) (ok : blkC N sc scope own = true) (hk : scope.kind = ScopeKind.function)
    (hg : ∀ Y, Cq G k E0 N (relS scope sc) Y → Y.fn = (fun x => scope.names.lookup x == some .cell) → PG Y tg (gtD G.K g)) (ht : ∀ Y, Cq G k E0 N (relS scope sc) Y → PTs Y ifs (tTD G.K E0 t)) (he : ∀ Y, Cq G k E0 N (relS scope sc) Y → PE Y elt (tD G.K E0 el))
    (hsl : ∀ i ∈ g.sl, i ∈ own.map (·.2)) (hs : ∀ x, foldedSetIterable iter X.env x = pure x := by intro _; rfl) : PE X (.ListComp elt [⟨tg, iter, ifs, 0⟩] scope pos) (tD G.K E (mLc mi g t el (own.map (·.2)))) :=
  (pe_lc (own := own) c.calm (by rw [c.n]; exact c.nd) hi (by rw [c.n, c.scq]; exact blkOk_by ok) (fun s H C cl fp => hg _ (cq_blk c hk s H C cl fp) rfl) (fun s H C cl fp => ht _ (cq_blk c hk s H C cl fp)) (fun s H C cl fp => he _ (cq_blk c hk s H C cl fp)) hs).imp fun σ H Q h => lc_sim hsl h
end
end Ly
namespace Ly
open PySem PySem.Spec PyProof.Rows L2
mutual
def D.low (k : Nat) : D → Bool
  | .tup ds => lowL k ds
  | .ftu ds => lowL k ds
  | .lst ds => lowL k ds
  | .scr ds => lowL k ds
  | .dic kvs => lowK k kvs
  | .obj _ fs => lowF k fs
  | .ref n => decide (n < k)
  | _ => true
def lowL (k : Nat) : List D → Bool
  | [] => true
  | d :: ds => D.low k d && lowL k ds
def lowK (k : Nat) : List (Key × D) → Bool
  | [] => true
  | d :: ds => D.low k d.2 && lowK k ds
def lowF (k : Nat) : List (Str × D) → Bool
  | [] => true
  | d :: ds => D.low k d.2 && lowF k ds
end
def Cell.low (k : Nat) : Cell → Bool
  | .lst ds => lowL k ds
  | .dic kvs => lowK k kvs
  | .obj _ fs => lowF k fs
  | .dct _ ds => lowL k ds
  | .fn => true
  | .xc _ => true
section
variable {K : PySem.W.Frag} {L L' : Wd} {H H' : Hp}
theorem and_l {a b : Bool} (h : (a && b) = true) : a = true := (Bool.and_eq_true_iff.mp h).1
theorem and_r {a b : Bool} (h : (a && b) = true) : b = true := (Bool.and_eq_true_iff.mp h).2
mutual
theorem Is.low : ∀ {d : D} {v : V}, Is K L H d v → d.low L.l.length = true
  | _, _, .non => rfl
  | _, _, .bl b => rfl
  | _, _, .int i => rfl
  | _, _, .str x => rfl
  | _, _, .ty n => rfl
  | _, _, .adr a => rfl
  | _, _, .tup h n r => by unfold D.low; exact IsL.low r
  | _, _, .tupK h r => by unfold D.low; exact IsL.low r
  | _, _, .ftu h _ n r => by unfold D.low; exact IsL.low r
  | _, _, .lst h n r => by unfold D.low; exact IsL.low r
  | _, _, .scr h n r => by unfold D.low; exact IsL.low r
  | _, _, .scrK h r => by unfold D.low; exact IsL.low r
  | _, _, .dic h n r => by unfold D.low; exact IsKV.low r
  | _, _, .obj h n r => by unfold D.low; exact IsFs.low r
  | _, _, .ref h => by unfold D.low; exact decide_eq_true (List.getElem?_eq_some_iff.mp h).1
theorem IsL.low : ∀ {ds : List D} {vs : List V}, IsL K L H ds vs → lowL L.l.length ds = true
  | _, _, .nil => rfl
  | _, _, .cons a b => by unfold lowL; rw [Is.low a, IsL.low b]; rfl
theorem IsKV.low : ∀ {ds : List (Key × D)} {vs : List (Key × V)}, IsKV K L H ds vs → lowK L.l.length ds = true
  | _, _, .nil => rfl
  | _, _, .cons a b => by unfold lowK; rw [Is.low a, IsKV.low b]; rfl
theorem IsFs.low : ∀ {ds : List (Str × D)} {vs : List (Str × V)}, IsFs K L H ds vs → lowF L.l.length ds = true
  | _, _, .nil => rfl
  | _, _, .cons a b => by unfold lowF; rw [Is.low a, IsFs.low b]; rfl
end
theorem CellIs.low {c : Cell} {a : Addr} (h : CellIs K L H c a) : c.low L.l.length = true := by
  cases c with
  | lst ds => exact let ⟨_, _, r⟩ := h; r.low
  | dic kvs => exact let ⟨_, _, r⟩ := h; r.low
  | obj c fs => exact let ⟨_, _, _, r⟩ := h; r.low
  | dct ks ds => exact let ⟨_, _, _, r⟩ := h; r.low
  | fn => rfl
  | xc x => rfl
theorem Out.less {l : List Addr} (e : L'.l = L.l ++ l) (z : L'.z = L.z) {a : Addr} (h : Out L' a) : Out L a := ⟨fun q => h.1 (by rw [e]; exact List.mem_append_left _ q), fun q => h.2 (by rw [z]; exact q)⟩
mutual
theorem Is.less {l : List Addr} (e : L'.l = L.l ++ l) (z : L'.z = L.z) : ∀ {d : D} {v : V}, Is K L' H d v → d.low L.l.length = true → Is K L H d v
  | _, _, .non, _ => .non
  | _, _, .bl b, _ => .bl b
  | _, _, .int i, _ => .int i
  | _, _, .str x, _ => .str x
  | _, _, .ty n, _ => .ty n
  | _, _, .adr a, _ => .adr a
  | _, _, .tup h n r, w => .tup h (n.less e z) (IsL.less e z r (by unfold D.low at w; exact w))
  | _, _, .tupK h r, w => .tupK h (IsL.less e z r (by unfold D.low at w; exact w))
  | _, _, .ftu h g n r, w => .ftu h g (n.less e z) (IsL.less e z r (by unfold D.low at w; exact w))
  | _, _, .lst h n r, w => .lst h (n.less e z) (IsL.less e z r (by unfold D.low at w; exact w))
  | _, _, .scr h n r, w => .scr h (n.less e z) (IsL.less e z r (by unfold D.low at w; exact w))
  | _, _, .scrK h r, w => .scrK h (IsL.less e z r (by unfold D.low at w; exact w))
  | _, _, .dic h n r, w => .dic h (n.less e z) (IsKV.less e z r (by unfold D.low at w; exact w))
  | _, _, .obj h n r, w => .obj h (n.less e z) (IsFs.less e z r (by unfold D.low at w; exact w))
  | _, _, .ref h, w => .ref (by
      unfold D.low at w
      rw [e, List.getElem?_append_left (of_decide_eq_true w)] at h
      exact h)
theorem IsL.less {l : List Addr} (e : L'.l = L.l ++ l) (z : L'.z = L.z) : ∀ {ds : List D} {vs : List V}, IsL K L' H ds vs → lowL L.l.length ds = true → IsL K L H ds vs
  | _, _, .nil, _ => .nil
  | _, _, .cons a b, w => .cons (Is.less e z a (by unfold lowL at w; exact and_l w)) (IsL.less e z b (by unfold lowL at w; exact and_r w))
theorem IsKV.less {l : List Addr} (e : L'.l = L.l ++ l) (z : L'.z = L.z) : ∀ {ds : List (Key × D)} {vs : List (Key × V)}, IsKV K L' H ds vs → lowK L.l.length ds = true → IsKV K L H ds vs
  | _, _, .nil, _ => .nil
  | _, _, .cons a b, w => .cons (Is.less e z a (by unfold lowK at w; exact and_l w)) (IsKV.less e z b (by unfold lowK at w; exact and_r w))
theorem IsFs.less {l : List Addr} (e : L'.l = L.l ++ l) (z : L'.z = L.z) : ∀ {ds : List (Str × D)} {vs : List (Str × V)}, IsFs K L' H ds vs → lowF L.l.length ds = true → IsFs K L H ds vs
  | _, _, .nil, _ => .nil
  | _, _, .cons a b, w => .cons (Is.less e z a (by unfold lowF at w; exact and_l w)) (IsFs.less e z b (by unfold lowF at w; exact and_r w))
end
theorem CellIs.less {l : List Addr} (e : L'.l = L.l ++ l) (z : L'.z = L.z) {c : Cell} {a : Addr} (h : CellIs K L' H c a) (w : c.low L.l.length = true) : CellIs K L H c a := by
  cases c with
  | lst ds => exact let ⟨vs, q, r⟩ := h; ⟨vs, q, r.less e z w⟩
  | dic kvs => exact let ⟨vs, q, r⟩ := h; ⟨vs, q, r.less e z w⟩
  | obj c fs => exact let ⟨dx, vs, q, r⟩ := h; ⟨dx, vs, q, r.less e z w⟩
  | dct ks ds => exact let ⟨vs, q, n, r⟩ := h; ⟨vs, q, n, r.less e z w⟩
  | fn => exact h
  | xc x => exact h.elim .inl fun ⟨dx, gs, q, r, n⟩ => .inr ⟨dx, gs, q, r, n.less e z⟩
end
def frL (f : D → Option D) : List D → Option (List D)
  | [] => some []
  | d :: ds => (f d).bind fun a => (frL f ds).map fun b => a :: b
def frK (f : D → Option D) : List (Key × D) → Option (List (Key × D))
  | [] => some []
  | d :: ds => (f d.2).bind fun a => (frK f ds).map fun b => (d.1, a) :: b
def frF (f : D → Option D) : List (Str × D) → Option (List (Str × D))
  | [] => some []
  | d :: ds => (f d.2).bind fun a => (frF f ds).map fun b => (d.1, a) :: b
def frzC (f : D → Option D) : Cell → Option D
  | .lst ds => (frL f ds).map .lst
  | .dic kvs => (frK f kvs).map .dic
  | .obj c fs => (frF f fs).map (.obj c)
  | .dct _ _ => none
  | .fn => none
  | .xc _ => none
def frzD (k : Nat) (M : Mem) : Nat → D → Option D
  | 0, d => if d.low k then some d else none
  | n + 1, d => if d.low k then some d else match d with
    | .tup ds => (frL (frzD k M n) ds).map .tup
    | .ftu ds => (frL (frzD k M n) ds).map .ftu
    | .lst ds => (frL (frzD k M n) ds).map .lst
    | .dic kvs => (frK (frzD k M n) kvs).map .dic
    | .obj c fs => (frF (frzD k M n) fs).map (.obj c)
    | .ref i => (M[i]?).bind (frzC (frzD k M n))
    | _ => none
section
variable {K : PySem.W.Frag} {L L' : Wd} {H H' : Hp}
theorem frL_ok {f : D → Option D} (hf : ∀ d d' v, Is K L' H d v → f d = some d' → Is K L H d' v) : ∀ {ds ds' : List D} {vs : List V}, IsL K L' H ds vs → frL f ds = some ds' → IsL K L H ds' vs
  | _, _, _, .nil, h => by cases h; exact .nil
  | d :: ds, _, _, .cons a b, h => by
    have h : ((f d).bind fun a => (frL f ds).map fun b => a :: b) = some _ := h
    obtain ⟨x, hx, h⟩ := Option.bind_eq_some_iff.mp h
    obtain ⟨y, hy, h⟩ := Option.map_eq_some_iff.mp h
    subst h
    exact .cons (hf _ _ _ a hx) (frL_ok hf b hy)
theorem frK_ok {f : D → Option D} (hf : ∀ d d' v, Is K L' H d v → f d = some d' → Is K L H d' v) : ∀ {ds ds' : List (Key × D)} {vs : List (Key × V)}, IsKV K L' H ds vs → frK f ds = some ds' → IsKV K L H ds' vs
  | _, _, _, .nil, h => by cases h; exact .nil
  | (k, d) :: ds, _, _, .cons a b, h => by
    have h : ((f d).bind fun a => (frK f ds).map fun b => (k, a) :: b) = some _ := h
    obtain ⟨x, hx, h⟩ := Option.bind_eq_some_iff.mp h
    obtain ⟨y, hy, h⟩ := Option.map_eq_some_iff.mp h
    subst h
    exact .cons (hf _ _ _ a hx) (frK_ok hf b hy)
theorem frF_ok {f : D → Option D} (hf : ∀ d d' v, Is K L' H d v → f d = some d' → Is K L H d' v) : ∀ {ds ds' : List (Str × D)} {vs : List (Str × V)}, IsFs K L' H ds vs → frF f ds = some ds' → IsFs K L H ds' vs
  | _, _, _, .nil, h => by cases h; exact .nil
  | (k, d) :: ds, _, _, .cons a b, h => by
    have h : ((f d).bind fun a => (frF f ds).map fun b => (k, a) :: b) = some _ := h
    obtain ⟨x, hx, h⟩ := Option.bind_eq_some_iff.mp h
    obtain ⟨y, hy, h⟩ := Option.map_eq_some_iff.mp h
    subst h
    exact .cons (hf _ _ _ a hx) (frF_ok hf b hy)
theorem frzD_ok {l : List Addr} (e : L'.l = L.l ++ l) (z : L'.z = L.z) {M : Mem} (m : MemIs K L' H M) : ∀ (n : Nat) (d d' : D) (v : V), Is K L' H d v → frzD L.l.length M n d = some d' → Is K L H d' v := by
  intro n
  induction n with
  | zero =>
    intro d d' v r h
    unfold frzD at h
    split at h
    · rename_i w
      cases h
      exact r.less e z w
    · cases h
  | succ n ih =>
    intro d d' v r h
    unfold frzD at h
    split at h
    · rename_i w
      cases h
      exact r.less e z w
    · rename_i w
      split at h
      · obtain ⟨ds', h1, rfl⟩ := Option.map_eq_some_iff.mp h
        cases r with
        | tup a b c => exact .tup a (b.less e z) (frL_ok ih c h1)
        | tupK a c => exact .tupK a (frL_ok ih c h1)
      · obtain ⟨ds', h1, rfl⟩ := Option.map_eq_some_iff.mp h
        cases r with
        | ftu a g b c => exact .ftu a g (b.less e z) (frL_ok ih c h1)
      · obtain ⟨ds', h1, rfl⟩ := Option.map_eq_some_iff.mp h
        cases r with
        | lst a b c => exact .lst a (b.less e z) (frL_ok ih c h1)
      · obtain ⟨ds', h1, rfl⟩ := Option.map_eq_some_iff.mp h
        cases r with
        | dic a b c => exact .dic a (b.less e z) (frK_ok ih c h1)
      · obtain ⟨ds', h1, rfl⟩ := Option.map_eq_some_iff.mp h
        cases r with
        | obj a b c => exact .obj a (b.less e z) (frF_ok ih c h1)
      · rename_i i
        obtain ⟨c, h1, h2⟩ := Option.bind_eq_some_iff.mp h
        cases r with
        | @ref _ ad q =>
          have w' : ¬ i < L.l.length := by
            unfold D.low at w
            simpa using w
          have out : Out L ad := ⟨fun y => by
            obtain ⟨j, hj⟩ := List.mem_iff_getElem?.mp y
            have hl := (List.getElem?_eq_some_iff.mp hj).1
            have : L'.l[j]? = some ad := by rw [e, List.getElem?_append_left hl]; exact hj
            have := nodup_at m.nd this q
            omega, fun y => (m.hid _ (by rw [z]; exact y)).1 (List.mem_of_getElem? q)⟩
          have cc := m.cell i _ c q h1
          cases c with
          | lst ds =>
            obtain ⟨vs, x, r⟩ := cc
            obtain ⟨ds', h3, rfl⟩ := Option.map_eq_some_iff.mp h2
            exact .lst x out (frL_ok ih r h3)
          | dic ds =>
            obtain ⟨vs, x, r⟩ := cc
            obtain ⟨ds', h3, rfl⟩ := Option.map_eq_some_iff.mp h2
            exact .dic x out (frK_ok ih r h3)
          | obj c fs =>
            obtain ⟨dx, vs, x, r⟩ := cc
            obtain ⟨ds', h3, rfl⟩ := Option.map_eq_some_iff.mp h2
            exact .obj x out (frF_ok ih r h3)
          | dct ks ds => cases h2
          | fn => cases h2
          | xc x => cases h2
      · cases h
end
def Laid (M M' : Mem) : Prop := ∀ i : Nat, i < M.length → M'[i]? = M[i]? ∨ ∃ c, M'[i]? = some c ∧ c.low M.length = true
open Classical in
noncomputable def finish (M : Mem) (d : D) (M' : Mem) : Res D := if Laid M M' then (match frzD M.length M' 20 d with
  | some d' => .ok d' (M'.take M.length)
  | none => .bad) else .bad
open Classical in
noncomputable def finishX (M : Mem) (x : Xc) (M' : Mem) : Res D := if Laid M M' then (match frF (frzD M.length M' 20) x.fs with
  | some fs => .exc ⟨x.bi, x.c, fs⟩ (M'.take M.length)
  | none => .bad) else .bad
def startD (n : Nat) (ds : List D) : Env := ds.map some ++ List.replicate (n - ds.length) none
noncomputable def callD (n : Nat) (m : MS) : MF := fun ds M => match m (startD n ds) M with
  | .rt d M' => finish M d M'
  | .nx _ M' => finish M .non M'
  | .exc x M' => finishX M x M'
  | _ => .bad
def callK (n : Nat) (m : MS) : MF := fun ds M => match m (startD n ds) M with
  | .rt d M' => .ok d M'
  | .nx _ M' => .ok .non M'
  | .exc x M' => .exc x M'
  | _ => .bad
section
variable {K : PySem.W.Frag} {E : XK} {L L' : Wd} {H H' : Hp} {M M' : Mem}
theorem laid_ok (m : MemIs K L H M) (s : Step L H L' H') (m' : MemIs K L' H' M') (h : Laid M M') : Step L H L H' ∧ MemIs K L H' (M'.take M.length) := by
  obtain ⟨l, e⟩ := s.more
  have hlen : M.length ≤ M'.length := by
    rw [← m.len, ← m'.len, e, List.length_append]
    omega
  refine ⟨⟨⟨[], by simp⟩, rfl, s.hid, fun a o q n t => ⟨(s.keep a o q n t).1, n⟩⟩, ⟨?_, m.nd, fun n a c e1 e2 => ?_, fun a q => ?_, fun x hx P hp => ?_⟩⟩
  · rw [List.length_take, Nat.min_eq_left hlen, m.len]
  · have hn : n < L.l.length := (List.getElem?_eq_some_iff.mp e1).1
    have e2' : M'[n]? = some c := by
      rw [List.getElem?_take_of_lt (by rw [← m.len]; exact hn)] at e2
      exact e2
    have e1' : L'.l[n]? = some a := by rw [e, List.getElem?_append_left hn]; exact e1
    have lw : c.low L.l.length = true := by
      rcases h n (by rw [← m.len]; exact hn) with q | ⟨c', q, w⟩
      · rw [e2'] at q
        exact (m.cell n a c e1 q.symm).low
      · rw [e2'] at q
        cases q
        rw [m.len]
        exact w
    exact (m'.cell n a c e1' e2').less e s.same lw
  · obtain ⟨h1, o, h2, t⟩ := m.hid a q
    exact ⟨h1, o, (s.hid a q).trans h2, t⟩
  · obtain ⟨ps, h1, h2, h3, h4⟩ := m'.tab x hx P hp
    refine ⟨ps, h1, h2, h3.less e s.same, fun pos cv hc => ?_⟩
    obtain ⟨c, e1, e2, e3⟩ := h4 pos cv hc
    exact ⟨c, e1, e2, e3.less e s.same⟩
theorem finish_sim (m : MemIs K L H M) {d : D} {Q : VK} (h : Fin (Is K) K E L H (finish M d M') Q) : ∀ L' H' v, Step L H L' H' → MemIs K L' H' M' → Is K L' H' d v → Q v H' := by
  intro L' H' v s m' r
  unfold finish at h
  split at h
  · rename_i hl
    obtain ⟨s2, m2⟩ := laid_ok m s m' hl
    split at h
    · rename_i d' q
      obtain ⟨l, e⟩ := s.more
      rw [← m.len] at q
      exact h L H' v s2 m2 (frzD_ok e s.same m' 20 d d' v r q)
    · exact h.elim
  · exact h.elim
theorem finishX_sim (m : MemIs K L H M) {x : Xc} {Q : VK} (h : Fin (Is K) K E L H (finishX M x M') Q) : ∀ L' H' cls d, Step L H L' H' → MemIs K L' H' M' → XcIs K L' H' x cls d → E cls d H' := by
  intro L' H' cls d s m' r
  unfold finishX at h
  split at h
  · rename_i hl
    obtain ⟨s2, m2⟩ := laid_ok m s m' hl
    split at h
    · rename_i fs q
      obtain ⟨l, e⟩ := s.more
      rw [← m.len] at q
      refine h L H' cls d s2 m2 ⟨r.1, ?_⟩
      have r2 := r.2
      obtain ⟨bi, c, fs0⟩ := x
      cases fs0 with
      | nil =>
        cases q
        exact r2
      | cons f fs0 =>
        obtain ⟨dd, gs, e1, e2, n, rf⟩ := r2
        have q' := frF_ok (frzD_ok e s.same m' 20) rf q
        cases fs with
        | nil =>
          cases q'
          cases rf
        | cons f' fs' => exact ⟨dd, gs, e1, e2, n.less e s.same, q'⟩
    · exact h.elim
  · exact h.elim
theorem start_is {N : List Str} {ds : List D} {vs : List V} (r : IsL K L H ds vs) : EnvIs K L H (startD N.length ds) (L2.start N vs) := by
  refine ⟨by unfold startD L2.start; simp [r.length], fun i d e => ?_⟩
  unfold startD at e
  by_cases hi : i < ds.length
  · rw [List.getElem?_append_left (by simpa using hi), List.getElem?_map] at e
    obtain ⟨d', e1, e2⟩ := Option.map_eq_some_iff.mp e
    cases e2
    obtain ⟨v, q, r'⟩ := r.get e1
    refine ⟨v, ?_, r'⟩
    unfold L2.start
    rw [List.getElem?_append_left (by rw [List.length_map, ← r.length]; exact hi), List.getElem?_map, q]
    rfl
  · rw [List.getElem?_append_right (by simpa using hi)] at e
    rw [List.getElem?_replicate] at e
    split at e <;> cases e
theorem callD_sim {N : List Str} {mb : MS} {ds : List D} {Q : VK} (m : MemIs K L H M) (h : Fin (Is K) K E L H (callD N.length mb ds M) Q) : FinS K E L H (mb (startD N.length ds) M) { nx := fun _ H' => Q .non H', rt := Q } := by
  unfold callD at h
  split at h
  · rename_i d M' q
    rw [q]
    exact finish_sim m h
  · rename_i env M' q
    rw [q]
    exact fun L' H' σ' s m' _ => finish_sim m h L' H' .non s m' .non
  · rename_i x M' q
    rw [q]
    exact finishX_sim m h
  · exact h.elim
theorem callK_sim {N : List Str} {mb : MS} {ds : List D} {Q : VK} (m : MemIs K L H M) (h : Fin (Is K) K E L H (callK N.length mb ds M) Q) : FinS K E L H (mb (startD N.length ds) M) { nx := fun _ H' => Q .non H', rt := Q } := by
  unfold callK at h
  split at h
  · rename_i d M' q
    rw [q]
    exact h
  · rename_i env M' q
    rw [q]
    exact fun L' H' σ' s m' _ => h L' H' .non s m' .non
  · rename_i x M' q
    rw [q]
    exact h
  · exact h.elim
end
def spD (K : PySem.W.Frag) (n : Nat) (f : MF) : Sp := fun vs H Q E => ∃ ds L M, vs.length = n ∧ IsL K L H ds vs ∧ MemIs K L H M ∧ Fin (Is K) K E L H (f ds M) Q
def FnG (G : Gd) (k : Nat) (f : Addr) (fd : FuncData) (ps : List Str) (sp : Sp) : Prop :=
  ∀ (A : Around) (outer : List PySem.Env) (s : Shared) (H : Hp) (args : Args) (us : List Value) (vs : List V) (Q : VK) (E : XK), Room k A → A.guards = G.gs → Env0 G.P G.w G.K G.mg G.base A outer s H →
    BindsTo s fd args (ps.zip us) → Vals vs us → vs.length = ps.length → sp vs H Q E → codeAny (model G.P G.w) A (.call (.ref f) args) (CR (L2.CX G.P G.w) outer G.P G.w H s Q E) s
structure Cal (G : Gd) (k : Nat) (x : Str) (ps : List Str) (f : MF) : Prop where
  ex : ∃ fd, FnG G k (He.ga G.K x) fd ps (spD G.K ps.length f) ∧ Binds G.K fd ps []
  kp : PySem.W.keepIn G.K (.ref (He.ga G.K x)) = true
  gl : G.mg x = some (.ref (He.ga G.K x))
theorem cq_def {G : Gd} {N : List Str} {qual : Str} {scope : Scope} {f : Addr} {cdv : Value} {A : Around} {outer : List PySem.Env} {s : Shared} {H : Hp} {E : XK} {k : Nat}
    (hr : Room k (A.deeper (envOfC qual scope s.heap.objs.size f cdv))) (hg : A.guards = G.gs) (nd : N.Nodup) (hk : scope.kind = ScopeKind.function) : Cq G k E N scope (cxOf (L2.CX G.P G.w) G.P G.w G.K G.mg G.base N qual scope f cdv A outer s H E) := by
  have tk : Takes (cxOf (L2.CX G.P G.w) G.P G.w G.K G.mg G.base N qual scope f cdv A outer s H E) (fun cls d _ H => E cls d H) := takes_of rfl rfl rfl rfl
  exact ⟨by show Gd.mk G.P G.w G.K G.mg G.base A.guards = G; rw [hg], rfl, nd, rfl, rfl, hr, passes_call tk fun _ _ _ _ h => h, passes_of rfl, hk, hg⟩
section
variable {G : Gd} {k j : Nat} {E : XK} {N ps : List Str} {sc : Scope} {X : Cx} {a b e : Expr} {es : List Expr} {ma mb : ME} {mr : MA} {pos p : Pos} {x : Str} {f : MF}
theorem fn_body {qual : Str} {params : Arguments} {body : List Stmt} {dvs : List V} {kws : List (Str × V)} {fa : Addr} {fd : FuncData} {sp : Sp} (F : FunD G.K x qual params body sc dvs kws fa fd) (S : FnScope N ps sc)
    (hb : ∀ (X : Cx) (vs : List V) (H : Hp) (Q : VK) (E : XK), Cq G k E N sc X → X.fn = (fun _ => true) → sp vs H Q E → ∃ t, PSs X body t ∧ t { nx := fun _ H' => Q .non H', rt := Q } (L2.start N vs) H) : FnG G (k + 1) fa fd ps sp := by
  obtain ⟨_, _, _, _, _, _, _, cdv, _, _, rfl, look, code, _, _⟩ := F.ex
  intro A outer s H args us vs Q E room guards env0 binds rel len promise
  have here : G.K.In s.heap := PySem.W.Frag.In.keeps env0.mod.kin fun b o q => (env0.bs b o q).1
  have calm : s.heap.NoLimit := Heap.NoLimit.keeps env0.mod.nolimit fun b o q => (env0.bs b o q).1
  refine codeAny_call_function room.depth (here _ _ look) rfl S.co S.gen rfl (PySem.W.codeRec_of here code) (binds _ _ _ _ (wpAny_newFunctionEnv_cells S.kind (fun y hy => ?_) fun env same s1 inC => ?_))
  · exact (S.par y.1 (List.of_mem_zip (show (y.1, y.2) ∈ ps.zip us from hy)).1).elim .inl fun q => .inr ⟨q, PySem.W.cellsFrom_some _ _ _ (.inl q)⟩
  · subst same
    obtain ⟨t, body, want⟩ := hb _ vs H Q E (cq_def (outer := outer) (H := H) (E := E) (room.deeper _) guards S.nd S.kind) rfl promise
    refine ⟨calm.keeps inC.toInCall.keep, codeAny_func (wpAny_mono (body.run [] s1 _ H _ (inv_start S room.hd env0 len rel inC) want) ?_ fun _ _ z => z)⟩
    intro flow s2 out
    cases flow with
    | ret u => exact let ⟨v, _, H2, J, rv, q⟩ := out; ⟨v, H2, J.os, J.bare, J.base, J.hok, rv, q⟩
    | next => exact let ⟨_, H2, J, q⟩ := out; ⟨V.non, H2, J.os, J.bare, J.base, J.hok, rfl, q⟩
    | brk => exact let ⟨_, _, _, q⟩ := out; q.elim
    | cont => exact let ⟨_, _, _, q⟩ := out; q.elim
theorem fn_okD {qual : Str} {params : Arguments} {body : List Stmt} {dvs : List V} {kws : List (Str × V)} {fa : Addr} {fd : FuncData} {m : MS} (F : FunD G.K x qual params body sc dvs kws fa fd) (S : FnScope N ps sc)
    (hb : ∀ (X : Cx) (E : XK), Cq G k E N sc X → X.fn = (fun _ => true) → PSs X body (sD G.K E m)) : FnG G (k + 1) fa fd ps (spD G.K ps.length (callD N.length m)) :=
  fn_body F S fun X vs H Q E c hf ⟨ds, L, M, hl, r, hm, h⟩ => ⟨_, hb X E c hf, startD N.length ds, L, M, start_is r, hm, callD_sim hm h⟩
theorem fn_okK {qual : Str} {params : Arguments} {body : List Stmt} {dvs : List V} {kws : List (Str × V)} {fa : Addr} {fd : FuncData} {m : MS} (F : FunD G.K x qual params body sc dvs kws fa fd) (S : FnScope N ps sc)
    (hb : ∀ (X : Cx) (E : XK), Cq G k E N sc X → X.fn = (fun _ => true) → PSs X body (sD G.K E m)) : FnG G (k + 1) fa fd ps (spD G.K ps.length (callK N.length m)) :=
  fn_body F S fun X vs H Q E c hf ⟨ds, L, M, hl, r, hm, h⟩ => ⟨_, hb X E c hf, startD N.length ds, L, M, start_is r, hm, callK_sim hm h⟩
theorem run_g {fa : Addr} {fd : FuncData} {sp : Sp} (F : FnG (gdOf X) j fa fd ps sp) (room : Room j X.A) (guards : X.A.guards = (gdOf X).gs) (B : Binds X.K fd ps []) (pass : Passes (L2.CX X.prog X.w) X E) {pins : List (Addr × Obj)} {σ : L2.St} {H : Hp} {s : Shared} {Q : VK} {us : List Value} {vs : List V}
    (I : Inv X pins σ H s) (rel : Vals vs us) (len : vs.length = ps.length) (h : sp vs H Q E) : wpAny (model X.prog X.w) X.A (call (.ref fa) us) (EP X pins σ Q) X.xe s := by
  have bind := B s us I.kIn (by rw [List.append_nil, ← rel.length]; exact len)
  rw [List.append_nil] at bind
  refine wpAny_call (codeAny_mono (F X.A X.stack s H ⟨us, []⟩ us vs Q E room guards I.env0 bind rel len h) fun r s2 out => ?_)
  cases r with
  | error x => exact pass pins σ H s x s2 I out
  | ok flow =>
    cases flow with
    | ret u => exact I.after out
    | _ => exact False.elim out
def mCall (n : Nat) (f : MF) (mr : MA) : ME := fun env M => (mr env M).bind fun ds M1 => if ds.length = n then f ds M1 else .bad
theorem ce_call (C : Cal G j x ps f) (hj : j ≤ k) (c : Cq G k E N sc X) (hg : sc.names.lookup x = some .globalImplicit) (ha : PA X (e :: es) (tAD G.K E mr)) (hdb : (x == ("__debug__" : Str)) = false := by decide +kernel)
    (first : starEach (e :: es) X.env = (false, eval e X.env) :: starEach es X.env := by rfl) (plain : (backTo pos (starEach es X.env)).any (·.1) = false := by rfl) : PE X (.Call (.Name x p) (e :: es) [] pos) (tD G.K E (mCall ps.length f mr)) := by
  obtain rfl := c.g
  obtain ⟨fd, F, B⟩ := C.ex
  refine ⟨fun pins s σ H Q I ⟨env, L, M, he, hm, h⟩ => wpAny_Call_Name_kw (ld_glob I (show X.env.scope.names.lookup x = _ by rw [c.scq]; exact hg) C.gl (PySem.W.callWith_K (h₀ := X.base) I.ok.mod.kin C.kp ?_ first plain) hdb)⟩
  refine thn (ha.run pos pins s σ H _ I ⟨env, L, M, he, hm, Fin.bind h⟩) fun us s1 ⟨vs, H1, I1, r, ds, M1, L1, s1', m1, r1, h1⟩ => ⟨I1.kIn, ?_⟩
  split at h1
  · rename_i hl
    have hv : vs.length = ps.length := by rw [← r1.length]; exact hl
    exact run_g F (c.room.mono hj) c.gd B c.pass I1 r hv ⟨ds, L1, M1, hv, r1, m1, h1⟩
  · exact h1.elim
def mCB (f : MF) (mr : MA) : ME := fun env M => (mr env M).bind fun ds M1 => f ds M1
theorem cb_sim {r : List V → Hp → VK → Prop} (hr : RSC G.K r f) {σ : L2.St} {H : Hp} {Q : VK} (h : tD G.K E (mCB f mr) σ H Q) : tCB r (tAD G.K E mr) σ H Q := by
  obtain ⟨env, L, M, he, hm, h⟩ := h
  refine ⟨env, L, M, he, hm, Fin.imp (Fin.bind h) fun vs H1 ⟨ds, M1, L1, s1, m1, r1, h1⟩ => ?_⟩
  exact hr E L1 H1 M1 ds vs Q m1 r1 h1
theorem ce_callB {id : String} {r : List V → Hp → VK → Prop} (hc : CallR X (.builtin id) r) (hr : RSC G.K r f) (c : Cq G k E N sc X) (hg : sc.names.lookup x = some .globalImplicit) (hm : G.mg x = none) (hv : bootBuiltins x = some (.builtin id)) (ha : PA X (e :: es) (tAD G.K E mr))
    (hn : x ≠ "__name__" := by decide +kernel) (hdb : (x == ("__debug__" : Str)) = false := by decide +kernel) (he : starEach (e :: es) X.env = (false, eval e X.env) :: starEach es X.env := by rfl) (hpl : (backTo pos (starEach es X.env)).any (·.1) = false := by rfl) :
    PE X (.Call (.Name x p) (e :: es) [] pos) (tD G.K E (mCB f mr)) := by
  obtain rfl := c.g
  exact (pe_callB hc (show X.env.scope.names.lookup x = _ by rw [c.scq]; exact hg) hm hv ha hn hdb he hpl).imp fun _ _ _ h => cb_sim hr h
theorem ce_callT {T : String} {r : List V → Hp → VK → Prop} (hc : CallR X (.type T) r) (hr : RSC G.K r f) (c : Cq G k E N sc X) (hg : sc.names.lookup x = some .globalImplicit) (hm : G.mg x = none) (hv : bootBuiltins x = some (.type T)) (ha : PA X (e :: es) (tAD G.K E mr))
    (hn : x ≠ "__name__" := by decide +kernel) (hdb : (x == ("__debug__" : Str)) = false := by decide +kernel) (he : starEach (e :: es) X.env = (false, eval e X.env) :: starEach es X.env := by rfl) (hpl : (backTo pos (starEach es X.env)).any (·.1) = false := by rfl) :
    PE X (.Call (.Name x p) (e :: es) [] pos) (tD G.K E (mCB f mr)) := by
  obtain rfl := c.g
  exact (pe_callTy hc (show X.env.scope.names.lookup x = _ by rw [c.scq]; exact hg) hm hv ha hn hdb he hpl).imp fun _ _ _ h => cb_sim hr h
end
end Ly
namespace Ly
open PySem PySem.Spec PyProof.Rows L2
def lstOf (d : D) (M : Mem) : Option (List D) := match d with
  | .lst ds => some ds
  | .scr ds => some ds
  | .ref n => (match M[n]? with
    | some (.lst ds) => some ds
    | _ => none)
  | _ => none
def lstM (d : D) (M : Mem) : Option (List D) := match d with
  | .lst ds => some ds
  | .ref n => (match M[n]? with
    | some (.lst ds) => some ds
    | _ => none)
  | _ => none
def seqOf (d : D) (M : Mem) : Option (List D) := match d with
  | .tup ds => some ds
  | .ftu ds => some ds
  | d => lstOf d M
def dicOf (d : D) (M : Mem) : Option (List (Key × D)) := match d with
  | .dic kvs => some kvs
  | .ref n => (match M[n]? with
    | some (.dic kvs) => some kvs
    | _ => none)
  | _ => none
section
variable {K : PySem.W.Frag} {L : Wd} {H : Hp} {M : Mem} {d : D} {v : V} {ds : List D}
theorem ref_inv {n : Nat} (h : Is K L H (.ref n) v) : ∃ a, v = .ref a ∧ L.l[n]? = some a := by
  cases h with
  | ref h => exact ⟨_, rfl, h⟩
theorem lstM_ok (m : MemIs K L H M) (r : Is K L H d v) (h : lstM d M = some ds) : ∃ a vs, v = .ref a ∧ H a = some (.lst vs) ∧ IsL K L H ds vs := by
  unfold lstM at h
  split at h
  · cases h
    obtain ⟨a, vs, e, q, _, r⟩ := r.lst_inv
    exact ⟨a, vs, e, q, r⟩
  · rename_i n
    split at h
    · rename_i ds' q
      cases h
      obtain ⟨a, e, q'⟩ := ref_inv r
      obtain ⟨vs, q2, r2⟩ := m.cell n a _ q' q
      exact ⟨a, vs, e, q2, r2⟩
    · cases h
  · cases h
theorem lstOf_ok (m : MemIs K L H M) (r : Is K L H d v) (h : lstOf d M = some ds) : ∃ a vs, v = .ref a ∧ SqL K H a vs ∧ IsL K L H ds vs := by
  unfold lstOf at h
  split at h
  · cases h
    obtain ⟨a, vs, e, q, _, r⟩ := r.lst_inv
    exact ⟨a, vs, e, .inl (.inl q), r⟩
  · cases h
    exact r.scr_inv
  · rename_i n
    split at h
    · rename_i ds' q
      cases h
      obtain ⟨a, e, q'⟩ := ref_inv r
      obtain ⟨vs, q2, r2⟩ := m.cell n a _ q' q
      exact ⟨a, vs, e, .inl (.inl q2), r2⟩
    · cases h
  · cases h
theorem seqOf_ok (m : MemIs K L H M) (r : Is K L H d v) (h : seqOf d M = some ds) : ∃ a vs, v = .ref a ∧ (SqL K H a vs ∨ SqT K H a vs) ∧ IsL K L H ds vs := by
  unfold seqOf at h
  split at h
  · cases h
    obtain ⟨a, vs, e, q, r⟩ := r.tup_inv
    exact ⟨a, vs, e, .inr q, r⟩
  · cases h
    obtain ⟨a, vs, e, q, r⟩ := r.ftu_inv
    exact ⟨a, vs, e, .inr q, r⟩
  · obtain ⟨a, vs, e, q, r⟩ := lstOf_ok m r h
    exact ⟨a, vs, e, .inl q, r⟩
theorem dicOf_ok {kvs : List (Key × D)} (m : MemIs K L H M) (r : Is K L H d v) (h : dicOf d M = some kvs) : ∃ a kws, v = .ref a ∧ H a = some (.dK kws) ∧ IsKV K L H kvs kws := by
  unfold dicOf at h
  split at h
  · cases h
    cases r with
    | dic q n r => exact ⟨_, _, rfl, q, r⟩
  · rename_i n
    split at h
    · rename_i ds' q
      cases h
      obtain ⟨a, e, q'⟩ := ref_inv r
      obtain ⟨vs, q2, r2⟩ := m.cell n a _ q' q
      exact ⟨a, vs, e, q2, r2⟩
    · cases h
  · cases h
theorem new_lst {E : XK} {Q : VK} (m : MemIs K L H M) {vs : List V} (r : IsL K L H ds vs) (h : Fin (Is K) K E L H (.ok (.lst ds) M) Q) : ∀ p, H p = none → Q (.ref p) (upd H p (.lst vs)) := fun p hp => by
  have st := Step.new (o := .lst vs) m hp
  exact h L _ _ st.1 (m.new hp) (.lst upd_same st.2 (r.step st.1))
theorem new_tup {E : XK} {Q : VK} (m : MemIs K L H M) {vs : List V} (r : IsL K L H ds vs) (h : Fin (Is K) K E L H (.ok (.tup ds) M) Q) : ∀ p, H p = none → Q (.ref p) (upd H p (.tup vs)) := fun p hp => by
  have st := Step.new (o := .tup vs) m hp
  exact h L _ _ st.1 (m.new hp) (.tup upd_same st.2 (r.step st.1))
theorem new_lstC {E : XK} {Q : VK} (m : MemIs K L H M) {vs : List V} (r : IsL K L H ds vs) (h : Fin (Is K) K E L H (.ok (.ref M.length) (M ++ [.lst ds])) Q) : ∀ p, H p = none → Q (.ref p) (upd H p (.lst vs)) := fun p hp => by
  have st := Step.cell (o := .lst vs) m hp
  refine h (L.add p) _ _ st (m.push hp ⟨vs, upd_same, r.step st⟩) (.ref ?_)
  rw [← m.len]
  simp [Wd.add]
end
def opAdd (d e : D) (M : Mem) : Res D := match d, e with
  | .int i, .int j => .ok (.int (i + j)) M
  | .str x, .str y => if szOk (x.length + y.length) then .ok (.str (x ++ y)) M else .bad
  | .tup ds, .tup es => if szOk (ds.length + es.length) then .ok (.tup (ds ++ es)) M else .bad
  | d, e => (match lstM d M, lstM e M with
    | some ds, some es => if szOk (ds.length + es.length) then .ok (.lst (ds ++ es)) M else .bad
    | _, _ => .bad)
def rAddA (K : PySem.W.Frag) : R2 := fun x y H Q => ((rI0 fun i j => .int (i + j)) x y H Q ∨ (∃ i j, x = .str i ∧ y = .str j ∧ i.length + j.length ≤ sizeLine ∧ Q (.str (i ++ j)) H)) ∨ (rCatA K x y H Q ∨ rCat x y H Q)
theorem op_addA {X : Cx} : OpR X (binaryOp .Add) (rAddA X.K) := (op_add.or op_add_str).or (op_catA.or op_cat)
theorem rs_add {K : PySem.W.Frag} : RS2 K (rAddA K) opAdd := by
  intro E L H M d e x y Q m rd re h
  unfold opAdd at h
  split at h
  · cases rd; cases re
    exact .inl (.inl ⟨_, _, rfl, rfl, h.end_ m (.int _)⟩)
  · split at h
    · rename_i hz
      cases rd; cases re
      exact .inl (.inr ⟨_, _, rfl, rfl, szOk.le hz, h.end_ m (.str _)⟩)
    · exact h.elim
  · split at h
    · rename_i ds es hz
      obtain ⟨a, vs, rfl, q1, r1⟩ := rd.tup_inv
      obtain ⟨b, ws, rfl, q2, r2⟩ := re.tup_inv
      refine .inr (.inl ⟨a, b, vs, ws, rfl, rfl, q1, q2, by rw [← r1.length, ← r2.length]; exact szOk.le hz, fun e1 => ?_, fun _ e2 => ?_, fun _ _ => new_tup m (r1.append r2) h⟩)
      · subst e1
        cases r1
        exact h.end_ m re
      · subst e2
        cases r2
        rw [List.append_nil] at h
        exact h.end_ m rd
    · exact h.elim
  · split at h
    · rename_i ds es h1 h2
      split at h
      · rename_i hz
        obtain ⟨a, vs, rfl, q1, r1⟩ := lstM_ok m rd h1
        obtain ⟨b, ws, rfl, q2, r2⟩ := lstM_ok m re h2
        exact .inr (.inr ⟨a, b, vs, ws, rfl, rfl, q1, q2, by rw [← r1.length, ← r2.length]; exact szOk.le hz, new_lst m (r1.append r2) h⟩)
      · exact h.elim
    · exact h.elim
def opII (f : Int → Int → D) (d e : D) (M : Mem) : Res D := match d, e with
  | .int i, .int j => .ok (f i j) M
  | _, _ => .bad
open Classical in
noncomputable def opIC (C : Int → Int → Prop) (f : Int → Int → D) (d e : D) (M : Mem) : Res D := match d, e with
  | .int i, .int j => if C i j then .ok (f i j) M else .bad
  | _, _ => .bad
theorem rs_II {K : PySem.W.Frag} {f : Int → Int → V} {g : Int → Int → D} (hg : ∀ i j L H, Is K L H (g i j) (f i j)) : RS2 K (rI0 f) (opII g) := by
  intro E L H M d e x y Q m rd re h
  unfold opII at h
  split at h
  · cases rd; cases re
    exact ⟨_, _, rfl, rfl, h.end_ m (hg _ _ _ _)⟩
  · exact h.elim
theorem rs_IC {K : PySem.W.Frag} {C : Int → Int → Prop} {f : Int → Int → V} {g : Int → Int → D} (hg : ∀ i j L H, Is K L H (g i j) (f i j)) : RS2 K (rI C f) (opIC C g) := by
  intro E L H M d e x y Q m rd re h
  unfold opIC at h
  split at h
  · split at h
    · rename_i hc
      cases rd; cases re
      exact ⟨_, _, rfl, rfl, hc, h.end_ m (hg _ _ _ _)⟩
    · exact h.elim
  · exact h.elim
abbrev opSub := opII fun i j => .int (i - j)
noncomputable abbrev opFdiv := opIC CDivN fun i j => .int (i.fdiv j)
noncomputable abbrev opMod := opIC (fun _ j => j ≠ 0) fun i j => .int (i.fmod j)
noncomputable abbrev opPow := opIC CPow fun i j => .int (i ^ j.toNat)
theorem rs_sub {K : PySem.W.Frag} : RS2 K (rI0 fun i j => .int (i - j)) opSub := rs_II fun _ _ _ _ => .int _
theorem rs_fdiv {K : PySem.W.Frag} : RS2 K (rI CDivN fun i j => .int (i.fdiv j)) opFdiv := rs_IC fun _ _ _ _ => .int _
theorem rs_mod {K : PySem.W.Frag} : RS2 K (rI (fun _ j => j ≠ 0) fun i j => .int (i.fmod j)) opMod := rs_IC fun _ _ _ _ => .int _
theorem rs_pow {K : PySem.W.Frag} : RS2 K (rI CPow fun i j => .int (i ^ j.toNat)) opPow := rs_IC fun _ _ _ _ => .int _
abbrev opLt := opII fun i j => .bl (decide (i < j))
abbrev opLe := opII fun i j => .bl (decide (i ≤ j))
abbrev opGt := opII fun i j => .bl (decide (j < i))
abbrev opGe := opII fun i j => .bl (decide (j ≤ i))
theorem rs_lt {K : PySem.W.Frag} : RS2 K (rI0 fun i j => .bl (decide (i < j))) opLt := rs_II fun _ _ _ _ => .bl _
theorem rs_gt {K : PySem.W.Frag} : RS2 K (rI0 fun i j => .bl (decide (j < i))) opGt := rs_II fun _ _ _ _ => .bl _
theorem rs_ge {K : PySem.W.Frag} : RS2 K (rI0 fun i j => .bl (decide (j ≤ i))) opGe := rs_II fun _ _ _ _ => .bl _
open Classical in
noncomputable def opMul (d e : D) (M : Mem) : Res D := match d, e with
  | .int i, .int j => if CMulW i j then .ok (.int (i * j)) M else .bad
  | d, .int k => (match lstM d M with
    | some ds => if 0 ≤ k ∧ k ≤ 100000 ∧ szOk (ds.length * k.toNat) = true then .ok (.lst (List.replicate k.toNat ds).flatten) M else .bad
    | none => .bad)
  | _, _ => .bad
theorem op_mulA {X : Cx} : OpR X (binaryOp .Mult) (fun x y H Q => (rI CMulW fun i j => .int (i * j)) x y H Q ∨ rRep x y H Q) := op_mulW.or op_rep
theorem IsL.rep {K : PySem.W.Frag} {L : Wd} {H : Hp} {ds : List D} {vs : List V} (r : IsL K L H ds vs) : ∀ n : Nat, IsL K L H (List.replicate n ds).flatten (List.replicate n vs).flatten
  | 0 => .nil
  | n + 1 => by
    rw [List.replicate_succ, List.replicate_succ, List.flatten_cons, List.flatten_cons]
    exact r.append (IsL.rep r n)
theorem rs_mul {K : PySem.W.Frag} : RS2 K (fun x y H Q => (rI CMulW fun i j => .int (i * j)) x y H Q ∨ rRep x y H Q) opMul := by
  intro E L H M d e x y Q m rd re h
  unfold opMul at h
  split at h
  · split at h
    · rename_i hc
      cases rd; cases re
      exact .inl ⟨_, _, rfl, rfl, hc, h.end_ m (.int _)⟩
    · exact h.elim
  · rename_i k _
    split at h
    · rename_i ds h1
      split at h
      · rename_i hc
        obtain ⟨a, vs, rfl, q1, r1⟩ := lstM_ok m rd h1
        cases re
        exact .inr ⟨a, k, vs, rfl, rfl, q1, by omega, by omega, by rw [← r1.length]; exact szOk.le hc.2.2, new_lst m (r1.rep _) h⟩
      · exact h.elim
    · exact h.elim
  · exact h.elim
mutual
def pdOf : D → Option PyData
  | .non => some .none
  | .bl b => some (.bool b)
  | .int i => some (.int i)
  | .str x => some (.str x)
  | .tup ds => (pdAll ds).map .tuple
  | .ftu ds => (pdAll ds).map .tuple
  | .lst ds => (pdAll ds).map .list
  | .scr ds => (pdAll ds).map .list
  | _ => none
def pdAll : List D → Option (List PyData)
  | [] => some []
  | d :: ds => (pdOf d).bind fun p => (pdAll ds).map fun ps => p :: ps
end
def pdM (M : Mem) (d : D) : Option PyData := match d with
  | .ref n => (match M[n]? with
    | some (.lst ds) => (pdAll ds).map .list
    | _ => none)
  | d => pdOf d
section
variable {K : PySem.W.Frag} {L : Wd} {H : Hp}
mutual
theorem pdOf_ok : ∀ {d : D} {v : V} {p : PyData}, Is K L H d v → pdOf d = some p → Dp K H v p
  | _, _, _, .non, h => by unfold pdOf at h; cases h; exact .non
  | _, _, _, .bl b, h => by unfold pdOf at h; cases h; exact .bl b
  | _, _, _, .int b, h => by unfold pdOf at h; cases h; exact .int b
  | _, _, _, .str b, h => by unfold pdOf at h; cases h; exact .str b
  | _, _, _, .tup q n r, h => by
    unfold pdOf at h
    obtain ⟨ps, e, rfl⟩ := Option.map_eq_some_iff.mp h
    exact .tup (.inl (.inl q)) (pdAll_ok r e)
  | _, _, _, .tupK q r, h => by
    unfold pdOf at h
    obtain ⟨ps, e, rfl⟩ := Option.map_eq_some_iff.mp h
    exact .tup (.inr q) (pdAll_ok r e)
  | _, _, _, .ftu q _ n r, h => by
    unfold pdOf at h
    obtain ⟨ps, e, rfl⟩ := Option.map_eq_some_iff.mp h
    exact .tup (.inl (.inr ⟨_, q⟩)) (pdAll_ok r e)
  | _, _, _, .lst q n r, h => by
    unfold pdOf at h
    obtain ⟨ps, e, rfl⟩ := Option.map_eq_some_iff.mp h
    exact .lst (.inl (.inl q)) (pdAll_ok r e)
  | _, _, _, .scr q n r, h => by
    unfold pdOf at h
    obtain ⟨ps, e, rfl⟩ := Option.map_eq_some_iff.mp h
    exact .lst (.inl q) (pdAll_ok r e)
  | _, _, _, .scrK q r, h => by
    unfold pdOf at h
    obtain ⟨ps, e, rfl⟩ := Option.map_eq_some_iff.mp h
    exact .lst (.inr q) (pdAll_ok r e)
  | _, _, _, .ty n, h => by unfold pdOf at h; cases h
  | _, _, _, .adr n, h => by unfold pdOf at h; cases h
  | _, _, _, .dic _ _ _, h => by unfold pdOf at h; cases h
  | _, _, _, .obj _ _ _, h => by unfold pdOf at h; cases h
  | _, _, _, .ref _, h => by unfold pdOf at h; cases h
theorem pdAll_ok : ∀ {ds : List D} {vs : List V} {ps : List PyData}, IsL K L H ds vs → pdAll ds = some ps → DpAll K H vs ps
  | _, _, _, .nil, h => by unfold pdAll at h; cases h; exact .nil
  | _, _, _, .cons a b, h => by
    unfold pdAll at h
    obtain ⟨p, e1, h⟩ := Option.bind_eq_some_iff.mp h
    obtain ⟨qs, e2, rfl⟩ := Option.map_eq_some_iff.mp h
    exact .cons (pdOf_ok a e1) (pdAll_ok b e2)
end
theorem pdM_ok {M : Mem} (m : MemIs K L H M) {d : D} {v : V} {p : PyData} (r : Is K L H d v) (h : pdM M d = some p) : Dp K H v p := by
  unfold pdM at h
  split at h
  · rename_i n
    split at h
    · rename_i ds q
      obtain ⟨ps, e, rfl⟩ := Option.map_eq_some_iff.mp h
      obtain ⟨a, rfl, q'⟩ := ref_inv r
      obtain ⟨vs, q2, r2⟩ := m.cell n a _ q' q
      exact .lst (.inl (.inl q2)) (pdAll_ok r2 e)
    · cases h
  · exact pdOf_ok r h
end
def eqM (M : Mem) (d e : D) : Option Bool := match pdM M d, pdM M e with
  | some p, some q => if SeqAt.shaped p && SeqAt.shaped q then some (PyData.eqv p q) else none
  | _, _ => none
def opEq (d e : D) (M : Mem) : Res D := match d, e with
  | .int i, .int j => .ok (.bl (decide (i = j))) M
  | .str x, .str y => .ok (.bl (decide (x = y))) M
  | .bl x, .bl y => .ok (.bl (decide (x = y))) M
  | d, e => (match eqM M d e with
    | some b => .ok (.bl b) M
    | none => .bad)
def opNe (d e : D) (M : Mem) : Res D := match d, e with
  | .int i, .int j => .ok (.bl (!decide (i = j))) M
  | .str x, .str y => .ok (.bl (!decide (x = y))) M
  | .bl x, .bl y => .ok (.bl (!decide (x = y))) M
  | d, e => (match eqM M d e with
    | some b => .ok (.bl (!b)) M
    | none => .bad)
theorem op_eqA {X : Cx} (hu : X.A.units + 64 < cLine) : OpR X (compareOp .Eq) (fun x y H Q => rEq x y H Q ∨ rEqD X.K x y H Q) := op_eq.or (op_eqD hu)
theorem op_neA {X : Cx} (hu : X.A.units + 64 < cLine) : OpR X (compareOp .NotEq) (fun x y H Q => rNe x y H Q ∨ rNeD X.K x y H Q) := op_ne.or (op_neD hu)
theorem eqM_ok {K : PySem.W.Frag} {L : Wd} {H : Hp} {M : Mem} (m : MemIs K L H M) {d e : D} {v w : V} {b : Bool} (rd : Is K L H d v) (re : Is K L H e w) (h : eqM M d e = some b) :
    ∃ p q, Dp K H v p ∧ Dp K H w q ∧ SeqAt.shaped p = true ∧ SeqAt.shaped q = true ∧ PyData.eqv p q = b := by
  unfold eqM at h
  split at h
  · rename_i p q h1 h2
    split at h
    · rename_i hz
      cases h
      exact ⟨p, q, pdM_ok m rd h1, pdM_ok m re h2, and_l hz, and_r hz, rfl⟩
    · cases h
  · cases h
theorem rs_eq {K : PySem.W.Frag} : RS2 K (fun x y H Q => rEq x y H Q ∨ rEqD K x y H Q) opEq := by
  intro E L H M d e x y Q m rd re h
  unfold opEq at h
  split at h
  · cases rd; cases re
    rename_i i j
    exact .inl ⟨rfl, by have := h.end_ m (.bl _); rw [show decide (V.int i = V.int j) = decide (i = j) by rw [dec_int]; exact Bool.beq_eq_decide_eq _ _]; exact this⟩
  · cases rd; cases re
    rename_i i j
    exact .inl ⟨rfl, by have := h.end_ m (.bl _); rw [show decide (V.str i = V.str j) = decide (i = j) by by_cases q : i = j <;> simp [q]]; exact this⟩
  · cases rd; cases re
    rename_i i j
    exact .inl ⟨rfl, by have := h.end_ m (.bl _); rw [show decide (V.bl i = V.bl j) = decide (i = j) by by_cases q : i = j <;> simp [q]]; exact this⟩
  · split at h
    · rename_i b eq
      obtain ⟨p, q, a1, a2, a3, a4, rfl⟩ := eqM_ok m rd re eq
      exact .inr ⟨p, q, a1, a2, a3, a4, h.end_ m (.bl _)⟩
    · exact h.elim
theorem rs_ne {K : PySem.W.Frag} : RS2 K (fun x y H Q => rNe x y H Q ∨ rNeD K x y H Q) opNe := by
  intro E L H M d e x y Q m rd re h
  unfold opNe at h
  split at h
  · cases rd; cases re
    rename_i i j
    exact .inl ⟨rfl, by have := h.end_ m (.bl _); rw [show decide (V.int i = V.int j) = decide (i = j) by by_cases q : i = j <;> simp [q]]; exact this⟩
  · cases rd; cases re
    rename_i i j
    exact .inl ⟨rfl, by have := h.end_ m (.bl _); rw [show decide (V.str i = V.str j) = decide (i = j) by by_cases q : i = j <;> simp [q]]; exact this⟩
  · cases rd; cases re
    rename_i i j
    exact .inl ⟨rfl, by have := h.end_ m (.bl _); rw [show decide (V.bl i = V.bl j) = decide (i = j) by by_cases q : i = j <;> simp [q]]; exact this⟩
  · split at h
    · rename_i b eq
      obtain ⟨p, q, a1, a2, a3, a4, rfl⟩ := eqM_ok m rd re eq
      exact .inr ⟨p, q, a1, a2, a3, a4, h.end_ m (.bl _)⟩
    · exact h.elim
end Ly
namespace Ly
open PySem PySem.Spec PyProof.Rows L2
def keyOf : D → Option Key
  | .int i => some (.inl i)
  | .str x => some (.inr x)
  | _ => none
def valD (kvs : List (Key × D)) (k : Key) : Option D := (kvs.find? fun kv => decide (kv.1 = k)).map (·.2)
def putD (kvs : List (Key × D)) (k : Key) (v : D) : List (Key × D) :=
  if (kvs.any fun kv => decide (kv.1 = k)) = true then kvs.map (fun kv => if kv.1 = k then (kv.1, v) else kv) else kvs ++ [(k, v)]
def mergeD (kvs more : List (Key × D)) : List (Key × D) := more.foldl (fun acc kv => putD acc kv.1 kv.2) kvs
section
variable {K : PySem.W.Frag} {L : Wd} {H : Hp} {M : Mem} {d e : D} {v w : V} {ds : List D}
theorem key_ok {k : Key} (r : Is K L H d v) (h : keyOf d = some k) : v = kV k := by
  cases r <;> first | (cases h; rfl) | cases h
theorem val_ok (k : Key) : ∀ {kvs : List (Key × D)} {kws : List (Key × V)}, IsKV K L H kvs kws → (∀ d, valD kvs k = some d → ∃ v, valV kws k = some v ∧ Is K L H d v) ∧ (valD kvs k = none → valV kws k = none)
  | _, _, .nil => ⟨fun _ h => (nomatch h), fun _ => rfl⟩
  | _, _, @IsKV.cons _ _ _ k' d v ds vs a b => by
    by_cases e : k' = k
    · have h1 : valD ((k', d) :: ds) k = some d := by simp [valD, e]
      have h2 : valV ((k', v) :: vs) k = some v := valV_pos e
      refine ⟨fun d' h => ⟨v, h2, ?_⟩, fun h => ?_⟩
      · rw [h1] at h
        cases h
        exact a
      · rw [h1] at h
        cases h
    · have h1 : valD ((k', d) :: ds) k = valD ds k := by simp [valD, List.find?_cons, e]
      have h2 : valV ((k', v) :: vs) k = valV vs k := valV_neg e
      rw [h1, h2]
      exact val_ok k b
theorem IsKV.length : ∀ {kvs : List (Key × D)} {kws : List (Key × V)}, IsKV K L H kvs kws → kvs.length = kws.length
  | _, _, .nil => rfl
  | _, _, .cons _ b => by rw [List.length_cons, List.length_cons, IsKV.length b]
theorem IsKV.append : ∀ {ds es : List (Key × D)} {vs ws : List (Key × V)}, IsKV K L H ds vs → IsKV K L H es ws → IsKV K L H (ds ++ es) (vs ++ ws)
  | _, _, _, _, .nil, s => s
  | _, _, _, _, .cons r t, s => .cons r (IsKV.append t s)
theorem any_ok (k : Key) : ∀ {kvs : List (Key × D)} {kws : List (Key × V)}, IsKV K L H kvs kws → (kvs.any fun kv => decide (kv.1 = k)) = (kws.any fun kv => decide (kv.1 = k))
  | _, _, .nil => rfl
  | _, _, .cons _ b => by rw [List.any_cons, List.any_cons, any_ok k b]
theorem map_ok {k : Key} (r : Is K L H d v) : ∀ {kvs : List (Key × D)} {kws : List (Key × V)}, IsKV K L H kvs kws → IsKV K L H (kvs.map (fun kv => if kv.1 = k then (kv.1, d) else kv)) (kws.map (fun kv => if kv.1 = k then (kv.1, v) else kv))
  | _, _, .nil => .nil
  | _, _, @IsKV.cons _ _ _ k' d' v' ds vs a b => by
    rw [List.map_cons, List.map_cons]
    by_cases e : k' = k
    · rw [if_pos e, if_pos e]
      exact .cons r (map_ok r b)
    · rw [if_neg e, if_neg e]
      exact .cons a (map_ok r b)
theorem put_ok {k : Key} (r : Is K L H d v) {kvs : List (Key × D)} {kws : List (Key × V)} (h : IsKV K L H kvs kws) : IsKV K L H (putD kvs k d) (putK kws k v) := by
  unfold putD putK
  rw [any_ok k h]
  split
  · exact map_ok r h
  · exact h.append (.cons r .nil)
theorem merge_ok : ∀ {more : List (Key × D)} {mws : List (Key × V)} {kvs : List (Key × D)} {kws : List (Key × V)}, IsKV K L H more mws → IsKV K L H kvs kws → IsKV K L H (mergeD kvs more) (mergeK kws mws)
  | _, _, _, _, .nil, h => h
  | _, _, _, _, @IsKV.cons _ _ _ k' _ _ _ _ a b, h => merge_ok (kvs := putD _ k' _) (kws := putK _ k' _) b (put_ok (k := k') a h)
end
def opIx (d e : D) (M : Mem) : Res D := match d, e with
  | .str z, .int i => if szOk z.length then (match atI z.cps.toList i with
    | some c => .ok (.str ⟨#[c]⟩) M
    | none => .bad) else .bad
  | d, e => (match dicOf d M with
    | some kvs => (match (keyOf e).bind (valD kvs) with
      | some v => .ok v M
      | none => .bad)
    | none => (match seqOf d M, e with
      | some ds, .int i => (match atI ds i with
        | some v => .ok v M
        | none => .bad)
      | _, _ => .bad))
def rIxA (K : PySem.W.Frag) : R2 := fun x y H Q => rIx K x y H Q ∨ ∃ a v, x = .ref a ∧ DGet H a y (some v) ∧ Q v H
theorem ix_dict {X : Cx} (hu : X.A.units + 1 < cLine) : IxR X (fun x y H Q => ∃ a v, x = .ref a ∧ DGet H a y (some v) ∧ Q v H) := by
  intro value slice pins s σ H x y v u Q I rx ry ⟨a, w, e, g, q⟩ hs
  subst e
  obtain rfl : v = Value.ref a := rx
  exact PyProof.Rows.tail_any (dict_typeIs I g) PySem.F.slot_dict_getitem.lookup (d_getItem hu I g ry fun w' s3 I3 rw' => ⟨w, H, I3, rw', q⟩) hs
theorem ix_any {X : Cx} (hu : X.A.units + 1 < cLine) : IxR X (rIxA X.K) := ix_seq.or (ix_dict hu)
theorem atI_ok {K : PySem.W.Frag} {L : Wd} {H : Hp} {ds : List D} {vs : List V} {i : Int} {d : D} (r : IsL K L H ds vs) (h : atI ds i = some d) : ∃ v, atI vs i = some v ∧ Is K L H d v := by
  unfold atI at h ⊢
  rw [r.length] at h
  obtain ⟨j, h1, h2⟩ := Option.bind_eq_some_iff.mp h
  obtain ⟨v, h3, h4⟩ := r.get h2
  exact ⟨v, by rw [h1]; exact h3, h4⟩
theorem rs_ix {K : PySem.W.Frag} : RS2 K (rIxA K) opIx := by
  intro E L H M d e x y Q m rd re h
  unfold opIx at h
  split at h
  · split at h
    · rename_i hz
      split at h
      · rename_i c hc
        cases rd; cases re
        exact .inl (.inr (.inr ⟨_, _, c, rfl, rfl, szOk.le hz, hc, h.end_ m (.str _)⟩))
      · exact h.elim
    · exact h.elim
  · split at h
    · rename_i kvs hd
      split at h
      · rename_i v hv
        obtain ⟨k, hk, hv⟩ := Option.bind_eq_some_iff.mp hv
        obtain ⟨a, kws, rfl, q1, r1⟩ := dicOf_ok m rd hd
        obtain rfl := key_ok re hk
        obtain ⟨v', e1, r'⟩ := (val_ok k r1).1 v hv
        exact .inr ⟨a, v', rfl, by rw [← e1]; exact DGet.k q1, h.end_ m r'⟩
      · exact h.elim
    · split at h
      · rename_i ds i hs
        split at h
        · rename_i v hv
          obtain ⟨a, vs, rfl, q1, r1⟩ := seqOf_ok m rd ‹seqOf d M = some _›
          obtain ⟨v', e1, r'⟩ := atI_ok r1 hv
          cases re
          rcases q1 with q1 | q1
          · exact .inl (.inl ⟨a, vs, _, v', rfl, rfl, q1, e1, h.end_ m r'⟩)
          · exact .inl (.inr (.inl ⟨a, vs, _, v', rfl, rfl, q1, e1, h.end_ m r'⟩))
        · exact h.elim
      · exact h.elim
section
variable {G : Gd} {k : Nat} {E : XK} {N : List Str} {sc : Scope} {X : Cx} {a b e o : Expr} {es : List Expr} {ma mb mo : ME} {mr : MA} {pos p2 apos cpos : Pos}
theorem ce_ix (c : Cq G k E N sc X) (ha : PE X a (tD G.K E ma)) (hb : PE X b (tD G.K E mb)) (hs : PlainIx b := by intro _ _; rfl) : PE X (.Subscript a b pos) (tD G.K E (mBin opIx ma mb)) := by
  obtain rfl := c.g
  exact (pe_ix (ix_any (hu_of c.room)) ha hb hs).imp fun _ _ _ h => op_sim rs_ix h
abbrev MO := Env → Mem → Res (Option Int)
def tOD (K : PySem.W.Frag) (E : XK) (m : MO) : TO := fun σ H Q => ∃ env L M, EnvIs K L H env σ ∧ MemIs K L H M ∧ Fin (fun _ _ a b => a = b) K E L H (m env M) Q
def mNoPart : MO := fun _ M => .ok none M
def mPart (a : ME) : MO := fun env M => (a env M).bind fun d M1 => match d with
  | .int i => .ok (some i) M1
  | _ => .bad
theorem co_none : PO X none (tOD G.K E mNoPart) := ⟨fun pins s σ H Q I ⟨env, L, M, he, hm, h⟩ => po_none.run pins s σ H Q I (h.end_ hm rfl)⟩
theorem co_some (ha : PE X a (tD G.K E ma)) : PO X (some a) (tOD G.K E (mPart ma)) := ⟨fun pins s σ H Q I ⟨env, L, M, he, hm, h⟩ => (po_some ha).run pins s σ H Q I
  ⟨env, L, M, he, hm, Fin.imp (Fin.bind h) fun x H1 ⟨d, M1, L1, s1, m1, r1, h1⟩ => by
    cases r1 with
    | int i => exact ⟨i, rfl, h1.end_ m1 rfl⟩
    | _ => exact h1.elim⟩⟩
def cutD (ds : List D) (lo hi : Option Int) : List D := (ds.drop (HT.sIx ds.length 0 lo)).take (HT.sIx ds.length ds.length hi - HT.sIx ds.length 0 lo)
theorem cut_ok {K : PySem.W.Frag} {L : Wd} {H : Hp} {ds : List D} {vs : List V} {lo hi : Option Int} (r : IsL K L H ds vs) : IsL K L H (cutD ds lo hi) (cutV vs lo hi) := by
  unfold cutD cutV
  rw [r.length]
  exact (r.drop _).take _
def opSl (d : D) (lo hi : Option Int) (M : Mem) : Res D := match d with
  | .str z => if szOk z.length then .ok (.str (cutS z lo hi)) M else .bad
  | .tup ds => .ok (.tup (cutD ds lo hi)) M
  | .ftu ds => if HT.sIx ds.length 0 lo = 0 ∧ HT.sIx ds.length ds.length hi = ds.length then .ok (.ftu ds) M else .ok (.tup (cutD ds lo hi)) M
  | d => (match lstOf d M with
    | some ds => .ok (.lst (cutD ds lo hi)) M
    | none => .bad)
def mSl (a : ME) (lo hi : MO) : ME := fun env M => (a env M).bind fun d M1 => (lo env M1).bind fun l M2 => (hi env M2).bind fun u M3 => opSl d l u M3
theorem sl_any : SlR X (fun x lo hi H Q => (rSlS x lo hi H Q ∨ rSlA X.K x lo hi H Q) ∨ rSlL X.K x lo hi H Q) := (sl_str.or sl_tupA).or sl_list
theorem ce_sl {lo hi : Option Expr} {ml mh : MO} (c : Cq G k E N sc X) (ha : PE X a (tD G.K E ma)) (hl : PO X lo (tOD G.K E ml)) (hh : PO X hi (tOD G.K E mh)) : PE X (.Subscript a (.Slice lo hi none p2) pos) (tD G.K E (mSl ma ml mh)) := by
  obtain rfl := c.g
  refine (pe_slice sl_any ha hl hh).imp fun σ H Q ⟨env, L, M, he, hm, h⟩ => ?_
  refine ⟨env, L, M, he, hm, Fin.imp (Fin.bind h) fun x H1 ⟨d, M1, L1, s1, m1, r1, h1⟩ => ?_⟩
  refine ⟨env, L1, M1, he.step s1, m1, Fin.imp (Fin.bind h1) fun l H2 ⟨l', M2, L2, s2, m2, r2, h2⟩ => ?_⟩
  cases r2
  refine ⟨env, L2, M2, (he.step s1).step s2, m2, Fin.imp (Fin.bind h2) fun u H3 ⟨u', M3, L3, s3, m3, r3, h3⟩ => ?_⟩
  cases r3
  have r1 := (r1.step s2).step s3
  unfold opSl at h3
  split at h3
  · split at h3
    · rename_i hz
      cases r1
      exact .inl (.inl ⟨_, rfl, szOk.le hz, h3.end_ m3 (.str _)⟩)
    · exact h3.elim
  · rename_i ds
    obtain ⟨ad, vs, rfl, q, r⟩ := r1.tup_inv
    refine .inl (.inr ⟨ad, vs, rfl, q, fun ⟨e1, e2⟩ => ?_, fun _ => new_tup m3 (cut_ok r) h3⟩)
    have cq : ∀ ds' : List D, ds'.length = vs.length → cutD ds' l u = ds' := fun ds' hl => by
      unfold cutD
      rw [hl, e1, e2, List.drop_zero, Nat.sub_zero, ← hl, List.take_length]
    rw [cq _ r.length] at h3
    exact h3.end_ m3 r1
  · rename_i ds
    obtain ⟨ad, vs, rfl, q, r⟩ := r1.ftu_inv
    refine .inl (.inr ⟨ad, vs, rfl, q, fun hw => ?_, fun hn => ?_⟩)
    · rw [if_pos (by rw [r.length]; exact hw)] at h3
      exact h3.end_ m3 r1
    · rw [if_neg (by rw [r.length]; exact hn)] at h3
      exact new_tup m3 (cut_ok r) h3
  · split at h3
    · rename_i ds hd
      obtain ⟨ad, vs, rfl, q, r⟩ := lstOf_ok m3 r1 hd
      exact .inr ⟨ad, vs, rfl, q, new_lst m3 (cut_ok r) h3⟩
    · exact h3.elim
def opRev (d : D) (M : Mem) : Res D := match lstOf d M with
  | some ds => .ok (.lst ds.reverse) M
  | none => .bad
theorem ce_rev {kk : Nat} {p1 p2 p3 : Pos} (c : Cq G k E N sc X) (ha : PE X a (tD G.K E ma)) : PE X (.Subscript a (.Slice none none (some (.UnaryOp .USub (.Constant (.int 1) kk p1) p2)) p3) pos) (tD G.K E (mUn opRev ma)) := by
  obtain rfl := c.g
  refine (pe_revL ha).imp fun σ H Q ⟨env, L, M, he, hm, h⟩ => ?_
  refine ⟨env, L, M, he, hm, Fin.imp (Fin.bind h) fun x H1 ⟨d, M1, L1, s1, m1, r1, h1⟩ => ?_⟩
  unfold opRev at h1
  split at h1
  · rename_i ds hd
    obtain ⟨ad, vs, rfl, q, r⟩ := lstOf_ok m1 r1 hd
    exact ⟨ad, vs, rfl, q, new_lst m1 r.reverse h1⟩
  · exact h1.elim
def opRevC (d : D) (M : Mem) : Res D := match lstOf d M with
  | some ds => .ok (.ref M.length) (M ++ [.lst ds.reverse])
  | none => .bad
theorem ce_revC {kk : Nat} {p1 p2 p3 : Pos} (c : Cq G k E N sc X) (ha : PE X a (tD G.K E ma)) : PE X (.Subscript a (.Slice none none (some (.UnaryOp .USub (.Constant (.int 1) kk p1) p2)) p3) pos) (tD G.K E (mUn opRevC ma)) := by
  obtain rfl := c.g
  refine (pe_revL ha).imp fun σ H Q ⟨env, L, M, he, hm, h⟩ => ?_
  refine ⟨env, L, M, he, hm, Fin.imp (Fin.bind h) fun x H1 ⟨d, M1, L1, s1, m1, r1, h1⟩ => ?_⟩
  unfold opRevC at h1
  split at h1
  · rename_i ds hd
    obtain ⟨ad, vs, rfl, q, r⟩ := lstOf_ok m1 r1 hd
    exact ⟨ad, vs, rfl, q, new_lstC m1 r.reverse h1⟩
  · exact h1.elim
end
end Ly
namespace L2
open PySem PySem.Spec PyProof.Rows
theorem set_dict {X : Cx} (hu : X.A.units + 1 < cLine) : PSet X (fun o i v H Q => ∃ a H', o = .ref a ∧ DPut H a i v H' ∧ Q H') := by
  intro pins s σ H o i v ov iv u Q I ro ri rv ⟨a, H', e, g, q⟩
  subst e
  cases ro
  exact d_setItem hu I g ri rv fun s' I' => ⟨H', I', q⟩
theorem PSet.or {X : Cx} {t t' : TSet} (h : PSet X t) (h' : PSet X t') : PSet X (fun o i v H Q => t o i v H Q ∨ t' o i v H Q) := by
  intro pins s σ H o i v ov iv u Q I ro ri rv q
  rcases q with q | q
  · exact h pins s σ H o i v ov iv u Q I ro ri rv q
  · exact h' pins s σ H o i v ov iv u Q I ro ri rv q
end L2
namespace Ly
open PySem PySem.Spec PyProof.Rows L2
theorem XcIs.mv {K : PySem.W.Frag} {L L' : Wd} {H H' : Hp} {x : Xc} {cls : Value} {d : Option Addr} (s : Mv L H L' H') (h : XcIs K L H x cls d) : XcIs K L' H' x cls d := by
  refine ⟨h.1, ?_⟩
  have h2 := h.2
  split at h2
  · exact h2
  · obtain ⟨dd, gs, e, q, n, r⟩ := h2
    exact ⟨dd, gs, e, (s.keep _ _ q n).1, (s.keep _ _ q n).2, r.mv s⟩
section
variable {α β γ δ : Type} {K : PySem.W.Frag} {E : XK} {L L0 : Wd} {H H0 : Hp} {Rl : Wd → Hp → α → β → Prop} {Rm : Wd → Hp → γ → δ → Prop}
theorem Fin.under {p : Addr} (hp : H p = none) (s0 : Step L H L0 H0) {r : Res α} {f : α → Mem → Res γ} {Q : δ → Hp → Prop} (h : Fin Rm K E L H (r.bind f) Q) :
    Fin Rl K E (L0.hide p) H0 r (fun b H1 => ∃ a M1 L1, Step L H L1 H1 ∧ H1 p = H0 p ∧ MemIs K (L1.hide p) H1 M1 ∧ Rl (L1.hide p) H1 a b ∧ Mv (L0.hide p) H0 (L1.hide p) H1 ∧ Fin Rm K E L H (f a M1) Q) := by
  cases r with
  | ok a M =>
    intro L' H' b s' m' q
    obtain ⟨L1, rfl, s1⟩ := s0.over hp s'
    exact ⟨a, M, L1, s1, s'.hid p List.mem_cons_self, m', q, s'.mv, h⟩
  | exc x M =>
    intro L' H' c d s' m' q
    obtain ⟨L1, rfl, s1⟩ := s0.over hp s'
    exact h L1 H' c d s1 m'.show (q.mv Mv.show)
  | bad => exact h
end
section
variable {K : PySem.W.Frag} {E : XK} {L : Wd} {H : Hp} {M : Mem} {d : D} {v : V}
theorem put_lst (m : MemIs K L H M) {n : Nat} {a : Addr} {ds : List D} {vs : List V} {Q : VK} (hn : L.l[n]? = some a) (r : IsL K L H ds vs) (rd : Is K L H d v) (h : Fin (Is K) K E L H (.ok d (M.set n (.lst ds))) Q) : Q v (upd H a (.lst vs)) := by
  have st := Step.put (o := .lst vs) m hn
  exact h L _ v st (m.put hn ⟨vs, upd_same, r.step st⟩) (rd.step st)
end
abbrev MM := D → List D → Mem → Res D
def RSM (K : PySem.W.Frag) (r : V → List V → Hp → VK → Prop) (f : MM) : Prop := ∀ (E : XK) (L : Wd) (H : Hp) (M : Mem) (d : D) (x : V) (ds : List D) (xs : List V) (Q : VK), MemIs K L H M → Is K L H d x → IsL K L H ds xs → Fin (Is K) K E L H (f d ds M) Q → r x xs H Q
def TyS (K : PySem.W.Frag) (T : String) (ty : D → Mem → Bool) : Prop := ∀ (L : Wd) (H : Hp) (M : Mem) (d : D) (x : V), MemIs K L H M → Is K L H d x → ty d M = true → tyV K T x H
def isLst (d : D) (M : Mem) : Bool := (lstOf d M).isSome
def isDic (d : D) (M : Mem) : Bool := (dicOf d M).isSome
theorem ty_lst {K : PySem.W.Frag} : TyS K "list" isLst := fun L H M d x m r h => by
  obtain ⟨ds, q⟩ := Option.isSome_iff_exists.mp h
  obtain ⟨a, vs, rfl, q, _⟩ := lstOf_ok m r q
  exact .inl ⟨rfl, vs, q⟩
def mMeth (ty : D → Mem → Bool) (f : MM) (mo : ME) (mr : MA) : ME := fun env M => (mo env M).bind fun d M1 => if ty d M1 then (mr env M1).bind fun ds M2 => f d ds M2 else .bad
section
variable {G : Gd} {k : Nat} {E : XK} {N : List Str} {sc : Scope} {X : Cx} {a b e o : Expr} {es : List Expr} {ma mb mo mv mi : ME} {mr : MA} {pos p2 apos cpos : Pos} {T id : String} {name : Str} {r : V → List V → Hp → VK → Prop} {f : MM} {ty : D → Mem → Bool}
theorem ce_meth (pa : PlainAttrs T) (slot : Slot T name id) (hty : typeOf (.builtin id) = pure (.type "method_descriptor")) (hm : MtR X id r) (ht : TyS G.K T ty) (hr : RSM G.K r f) (c : Cq G k E N sc X) (ho : PE X o (tD G.K E mo)) (ha : PA X (e :: es) (tAD G.K E mr))
    (hbase : attributeBase o name X.env (eval o X.env) = eval o X.env := by rfl)
    (hfew : ((backTo cpos (starEach (e :: es) X.env)).all (fun x => !x.1) && (backToKw cpos (keywordEach [] X.env)).all (fun x => x.1.isSome)
      && decide ((e :: es).length + ([] : List Keyword).length + (if ([] : List Keyword).isEmpty then 0 else 1) < 30)) = true := by rfl)
    (hline : (apos.endLine == cpos.line) = true := by rfl) (hs : starEach (e :: es) X.env = (false, eval e X.env) :: starEach es X.env := by rfl) (hplain : (backTo cpos (starEach es X.env)).any (·.1) = false := by rfl) :
    PE X (.Call (.Attribute o name apos) (e :: es) [] cpos) (tD G.K E (mMeth ty f mo mr)) := by
  obtain rfl := c.g
  refine (pe_bm pa slot hty hm ho ha hbase hfew hline hs hplain).imp fun σ H Q ⟨env, L, M, he, hm, h⟩ => ?_
  refine ⟨env, L, M, he, hm, Fin.imp (Fin.bind h) fun x H1 ⟨d, M1, L1, s1, m1, r1, h1⟩ => ?_⟩
  split at h1
  · rename_i hy
    refine ⟨ht L1 H1 M1 d x m1 r1 hy, env, L1, M1, he.step s1, m1, Fin.imp (Fin.bind h1) fun xs H2 ⟨ds, M2, L2, s2, m2, r2, h2⟩ => ?_⟩
    exact hr E L2 H2 M2 d x ds xs Q m2 (r1.step s2) r2 h2
  · exact h1.elim
theorem ce_meth0 (pa : PlainAttrs T) (slot : Slot T name id) (hty : typeOf (.builtin id) = pure (.type "method_descriptor")) (hm : MtR X id r) (ht : TyS G.K T ty) (hr : RSM G.K r f) (c : Cq G k E N sc X) (ho : PE X o (tD G.K E mo))
    (hbase : attributeBase o name X.env (eval o X.env) = eval o X.env := by rfl) (hline : (apos.endLine == cpos.line) = true := by rfl) : PE X (.Call (.Attribute o name apos) [] [] cpos) (tD G.K E (mMeth ty f mo mNil)) := by
  obtain rfl := c.g
  refine (pe_bm0 pa slot hty hm ho hbase hline).imp fun σ H Q ⟨env, L, M, he, hm, h⟩ => ?_
  refine ⟨env, L, M, he, hm, Fin.imp (Fin.bind h) fun x H1 ⟨d, M1, L1, s1, m1, r1, h1⟩ => ?_⟩
  split at h1
  · rename_i hy
    exact ⟨ht L1 H1 M1 d x m1 r1 hy, hr E L1 H1 M1 d x [] [] Q m1 r1 .nil h1⟩
  · exact h1.elim
def fAppend : MM := fun d ds M => match d, ds with
  | .ref n, [e] => (match M[n]? with
    | some (.lst xs) => if szOk (xs.length + 1) then .ok .non (M.set n (.lst (xs ++ [e]))) else .bad
    | _ => .bad)
  | _, _ => .bad
theorem rs_append {K : PySem.W.Frag} : RSM K rAppend fAppend := by
  intro E L H M d x ds xs Q m rd rl h
  unfold fAppend at h
  split at h
  · rename_i n e
    split at h
    · rename_i ys hy
      split at h
      · rename_i hz
        obtain ⟨a, rfl, hn⟩ := ref_inv rd
        obtain ⟨vs, q, r⟩ := m.cell n a _ hn hy
        cases rl with
        | cons r1 r2 =>
          cases r2
          exact ⟨a, vs, _, rfl, rfl, q, by rw [← r.length]; have := szOk.le hz; omega, put_lst m hn (r.append (.cons r1 .nil)) .non h⟩
      · exact h.elim
    · exact h.elim
  · exact h.elim
def fPop : MM := fun d ds M => match d, ds with
  | .ref n, [] => (match M[n]? with
    | some (.lst xs) => (match xs[xs.length - 1]? with
      | some y => .ok y (M.set n (.lst xs.dropLast))
      | none => .bad)
    | _ => .bad)
  | _, _ => .bad
theorem IsL.dropLast {K : PySem.W.Frag} {L : Wd} {H : Hp} {ds : List D} {vs : List V} (r : IsL K L H ds vs) : IsL K L H ds.dropLast vs.dropLast := by
  rw [List.dropLast_eq_take, List.dropLast_eq_take, r.length]
  exact r.take _
theorem rs_pop {K : PySem.W.Frag} : RSM K rPop fPop := by
  intro E L H M d x ds xs Q m rd rl h
  unfold fPop at h
  split at h
  · rename_i n
    split at h
    · rename_i ys hy
      split at h
      · rename_i y hz
        obtain ⟨a, rfl, hn⟩ := ref_inv rd
        obtain ⟨vs, q, r⟩ := m.cell n a _ hn hy
        cases rl
        obtain ⟨yv, e1, r1⟩ := r.get hz
        rw [r.length] at e1
        exact ⟨a, vs, yv, rfl, rfl, q, e1, put_lst m hn r.dropLast r1 h⟩
      · exact h.elim
    · exact h.elim
  · exact h.elim
def strsOf : List D → Option (List Str)
  | [] => some []
  | .str x :: ds => (strsOf ds).map fun xs => x :: xs
  | _ => none
def opGet (d y z : D) (M : Mem) : Res D := match dicOf d M, keyOf y with
  | some kvs, some k => .ok ((valD kvs k).getD z) M
  | _, _ => .bad
def mGet (mo ma mb : ME) : ME := fun env M => (mo env M).bind fun d M1 => if isDic d M1 then (ma env M1).bind fun y M2 => (mb env M2).bind fun z M3 => opGet d y z M3 else .bad
def setM (M : Mem) (d i v : D) : Option Mem := match d with
  | .ref n => (match M[n]? with
    | some (.lst xs) => (match i with
      | .int j => (ixN xs.length j).map fun q => M.set n (.lst (xs.set q v))
      | _ => none)
    | some (.dic kvs) => (match keyOf i with
      | some k => if szOk (kvs.length + 1) then some (M.set n (.dic (putD kvs k v))) else none
      | none => none)
    | _ => none)
  | _ => none
def mSetItem (mv mo mi : ME) : MS := fun env M => (mv env M).bindS fun v M1 => (mo env M1).bindS fun d M2 => (mi env M2).bindS fun i M3 => match setM M3 d i v with
  | some M4 => .nx env M4
  | none => .bad
theorem cs_setItem {i : Expr} {pos' : Pos} (c : Cq G k E N sc X) (hv : PE X e (tD G.K E mv)) (ho : PE X o (tD G.K E mo)) (hi : PE X i (tD G.K E mi)) (hs : swapsWithSole [.Subscript o i pos'] e pos.line X.env = pure false := by rfl) (hw : swappedStores [.Subscript o i pos'] e X.env = pure none := by rfl)
    (h1 : (assignEach [.Subscript o i pos'] X.env).map (·.2) = [assign (.Subscript o i pos') X.env] := by rfl)
    (ha : ∀ v, assign (.Subscript o i pos') X.env v = (do
      let ov ← holding [v] (eval o X.env)
      let iv ← holding [v, ov] (eval i X.env)
      standAt pos'
      holding [v, ov, iv] (setItem ov iv v)
      release [v, ov, iv] []) := by intro _; rfl) : PS X (.Assign [.Subscript o i pos'] e pos) (sD G.K E (mSetItem mv mo mi)) := by
  refine (ps_asg hv (pg_sub ho hi (set_list.or (set_dict (hu_of c.room))) ha) hs hw h1).imp fun T σ H ⟨env, L, M, he, hm, h⟩ => ?_
  refine ⟨env, L, M, he, hm, Fin.imp (Fin.bindS h) fun x H1 ⟨v, M1, L1, s1, m1, r1, h1⟩ => ?_⟩
  refine ⟨env, L1, M1, he.step s1, m1, Fin.imp (Fin.bindS h1) fun y H2 ⟨d, M2, L2, s2, m2, r2, h2⟩ => ?_⟩
  refine ⟨env, L2, M2, (he.step s1).step s2, m2, Fin.imp (Fin.bindS h2) fun z H3 ⟨j, M3, L3, s3, m3, r3, h3⟩ => ?_⟩
  have rv := (r1.step s2).step s3
  have rd := r2.step s3
  have e3 := ((he.step s1).step s2).step s3
  cases q : setM M3 d j v with
  | none =>
    rw [q] at h3
    exact h3.elim
  | some M4 =>
    rw [q] at h3
    unfold setM at q
    split at q
    · rename_i n
      split at q
      · rename_i xs hx
        obtain ⟨ad, rfl, hn⟩ := ref_inv rd
        obtain ⟨vs, q1, rr⟩ := m3.cell _ ad _ hn hx
        split at q
        · rename_i jj
          obtain ⟨k', hk, rfl⟩ := Option.map_eq_some_iff.mp q
          cases r3
          have st := Step.put (o := .lst (vs.set k' x)) m3 hn
          exact .inl ⟨ad, vs, jj, k', rfl, rfl, q1, by rw [← rr.length]; exact hk, h3 L3 _ σ st (m3.put hn ⟨_, upd_same, (rr.set rv k').step st⟩) (e3.step st)⟩
        · cases q
      · rename_i kvs hx
        obtain ⟨ad, rfl, hn⟩ := ref_inv rd
        obtain ⟨kws, q1, rr⟩ := m3.cell _ ad _ hn hx
        split at q
        · rename_i k' hk
          split at q
          · rename_i hz
            cases q
            obtain rfl := key_ok r3 hk
            have st := Step.put (o := .dK (putK kws k' x)) m3 hn
            exact .inr ⟨ad, _, rfl, DPut.k q1 (by rw [← rr.length]; have := szOk.lt hz; omega), h3 L3 _ σ st (m3.put hn ⟨_, upd_same, (put_ok rv rr).step st⟩) (e3.step st)⟩
          · cases q
        · cases q
      · cases q
    · cases q
end
end Ly
namespace L2
open PySem PySem.Spec PyProof.Rows
def iAny (K : PySem.W.Frag) (tl : TE) : TI := fun σ H R => tl σ H fun x H1 => (∃ a, x = .ref a ∧ (∃ xs, SqL K H1 a xs) ∧ R (Itl K a) H1) ∨ (∃ a, x = .ref a ∧ (∃ xs, SqT K H1 a xs) ∧ R (Itt K a) H1) ∨ (∃ z, x = .str z ∧ R (Its z) H1)
theorem pi_any {X : Cx} {tg l : Expr} {tl : TE} (hl : PE X l tl) : PI X tg l (iAny X.K tl) := by
  refine ⟨fun pins s σ H R I h => thn (hl.run pins s σ H _ I h) fun v s1 ⟨x, H1, I1, r1, q1⟩ => ?_⟩
  rcases q1 with ⟨a, rfl, ⟨xs, hq⟩, q⟩ | ⟨a, rfl, ⟨xs, hq⟩, q⟩ | ⟨z, rfl, q⟩
  · cases r1
    obtain ⟨its, _, pl, _⟩ := I1.list hq
    exact wpAny_pyIter_list pl.isList (pi_one (tk := s1.toks) I1 _ (turn_list a _) ⟨_, Heap.get?_push_size _ rfl, rfl, rfl⟩ q)
  · cases r1
    obtain ⟨its, _, pl, _⟩ := I1.tuple hq
    exact wpAny_pyIter_tuple pl (pi_one (tk := s1.toks) I1 _ (turn_tuple a _) ⟨_, Heap.get?_push_size _ rfl, rfl, rfl⟩ q)
  · obtain ⟨t, rfl⟩ := r1
    cases hz : z.cps.all (· < 128) with
    | false => exact wpAny_pyIter_wide hz (pi_one (tk := s1.toks) I1 _ (turn_str _ z t "str_iterator" (.inr rfl)) ⟨_, Heap.get?_push_size _ rfl, rfl, rfl⟩ q)
    | true => exact wpAny_pyIter_ascii hz (pi_one (tk := s1.toks) I1 _ (turn_str _ z t "str_ascii_iterator" (.inl rfl)) ⟨_, Heap.get?_push_size _ rfl, rfl, rfl⟩ q)
theorem ObjOk.there {P : Program} {w : World} {H : Hp} {h : Heap} {a : Addr} {o : HO} (x : ObjOk P w H h a o) : ∃ ob, h.get? a = some ob := by
  cases o with
  | lst xs => exact let ⟨_, _, _, _, e⟩ := x; ⟨_, e⟩
  | tup xs => exact let ⟨_, _, _, _, e, _⟩ := x; ⟨_, e⟩
  | dK kvs => exact let ⟨_, _, _, _, o, _, _, e, _⟩ := x; ⟨o, e⟩
  | dT kvs => exact let ⟨_, _, _, _, o, _, _, e, _⟩ := x; ⟨o, e⟩
  | set S n => exact let ⟨o, _, _, _, e, _⟩ := x; ⟨o, e⟩
  | ins C dx fs => exact let ⟨_, _, _, e, _⟩ := x; ⟨_, e⟩
  | own y => exact x
  | xd fs => exact let ⟨_, ⟨o, _, _, e, _⟩, _⟩ := x; ⟨o, e⟩
  | rng lo hi => exact let ⟨_, _, _, e⟩ := x; ⟨_, e⟩
  | frz ob u => exact let ⟨e, _⟩ := x; ⟨_, e⟩
  | tbl ps => exact ⟨_, x⟩
  | met f y => exact ⟨_, x⟩
  | ext φ => exact let ⟨_, e, _⟩ := x; e
end L2
namespace Ly
open PySem PySem.Spec PyProof.Rows L2
def GlS (sc : Scope) (x : Str) : Prop := sc.names.lookup x = some NameKind.globalImplicit
theorem Cq.gl {G : Gd} {k : Nat} {E : XK} {N : List Str} {sc : Scope} {X : Cx} {x : Str} (c : Cq G k E N sc X) (h : GlS sc x) : Gl X x := by
  show X.env.scope.names.lookup x = _
  rw [c.scq]
  exact h
section
variable {K : PySem.W.Frag} {L : Wd} {H : Hp} {a : Addr} {ds : List D} {chk : Mem → Prop}
theorem it_list (h : ∀ L' H' M', Mv L H L' H' → MemIs K L' H' M' → chk M' → ∃ vs, SqL K H' a vs ∧ IsL K L' H' ds vs) : ItIs K L H ⟨ds, chk⟩ (Itl K a) := fun L' H' M' mv m c i => by
  obtain ⟨vs, q, r⟩ := h L' H' M' mv m c
  refine ⟨fun d e => ?_, fun hl => ⟨vs, q, by rw [← r.length]; exact Nat.le_of_eq hl⟩⟩
  obtain ⟨v, e1, r1⟩ := r.get e
  refine ⟨⟨vs, v, q, e1⟩, fun x H'' y => ?_⟩
  obtain ⟨rfl, y⟩ := y
  have := y vs q
  rw [e1] at this
  cases this
  exact ⟨Step.refl, m, r1⟩
theorem it_tup (h : ∀ L' H' M', Mv L H L' H' → MemIs K L' H' M' → chk M' → ∃ vs, SqT K H' a vs ∧ IsL K L' H' ds vs) : ItIs K L H ⟨ds, chk⟩ (Itt K a) := fun L' H' M' mv m c i => by
  obtain ⟨vs, q, r⟩ := h L' H' M' mv m c
  refine ⟨fun d e => ?_, fun hl => ⟨vs, q, by rw [← r.length]; exact Nat.le_of_eq hl⟩⟩
  obtain ⟨v, e1, r1⟩ := r.get e
  refine ⟨⟨vs, v, q, e1⟩, fun x H'' y => ?_⟩
  obtain ⟨rfl, y⟩ := y
  have := y vs q
  rw [e1] at this
  cases this
  exact ⟨Step.refl, m, r1⟩
def numbered (ds : List D) : List D := ds.zipIdx.map fun p => .tup [.int (p.2 : Nat), p.1]
def itemsOf (d : D) (M : Mem) : Option Itm := match d with
  | .str z => some ⟨z.cps.toList.map fun c => .str ⟨#[c]⟩, fun _ => True⟩
  | .tup ds => some ⟨ds, fun _ => True⟩
  | .ftu ds => some ⟨ds, fun _ => True⟩
  | .lst ds => some ⟨ds, fun _ => True⟩
  | .scr ds => some ⟨ds, fun _ => True⟩
  | .ref n => (match M[n]? with
    | some (.lst ds) => some ⟨ds, fun M' => M'[n]? = some (.lst ds)⟩
    | _ => none)
  | _ => none
end
section
variable {K : PySem.W.Frag} {L : Wd} {H : Hp} {M : Mem} {d : D} {v : V} {t : Itm}
inductive Sq3 (K : PySem.W.Frag) (L : Wd) (H : Hp) (t : Itm) : V → Prop
  | lst {a : Addr} : (∃ xs, SqL K H a xs) → (∀ L' H' M', Mv L H L' H' → MemIs K L' H' M' → t.chk M' → ∃ vs, SqL K H' a vs ∧ IsL K L' H' t.items vs) → Sq3 K L H t (.ref a)
  | tup {a : Addr} : (∃ xs, SqT K H a xs) → (∀ L' H' M', Mv L H L' H' → MemIs K L' H' M' → t.chk M' → ∃ vs, SqT K H' a vs ∧ IsL K L' H' t.items vs) → Sq3 K L H t (.ref a)
  | str {z : Str} : t.items = z.cps.toList.map (fun c => D.str ⟨#[c]⟩) → Sq3 K L H t (.str z)
theorem itemsOf_ok (m : MemIs K L H M) (r : Is K L H d v) (h : itemsOf d M = some t) : Sq3 K L H t v := by
  unfold itemsOf at h
  split at h
  · cases h
    cases r
    exact .str rfl
  · cases h
    obtain ⟨a, vs, rfl, q, r1⟩ := r.tup_inv
    refine .tup ⟨vs, q⟩ fun L' H' M' mv m' _ => ?_
    obtain ⟨a', ws, e, q', r'⟩ := (r.mv mv).tup_inv
    cases e
    exact ⟨ws, q', r'⟩
  · cases h
    obtain ⟨a, vs, rfl, q, r1⟩ := r.ftu_inv
    refine .tup ⟨vs, q⟩ fun L' H' M' mv m' _ => ?_
    obtain ⟨a', ws, e, q', r'⟩ := (r.mv mv).ftu_inv
    cases e
    exact ⟨ws, q', r'⟩
  · cases h
    obtain ⟨a, vs, rfl, q, _, r1⟩ := r.lst_inv
    refine .lst ⟨vs, .inl (.inl q)⟩ fun L' H' M' mv m' _ => ?_
    obtain ⟨a', ws, e, q', _, r'⟩ := (r.mv mv).lst_inv
    cases e
    exact ⟨ws, .inl (.inl q'), r'⟩
  · cases h
    obtain ⟨a, vs, rfl, q, r1⟩ := r.scr_inv
    refine .lst ⟨vs, q⟩ fun L' H' M' mv m' _ => ?_
    obtain ⟨a', ws, e, q', r'⟩ := (r.mv mv).scr_inv
    cases e
    exact ⟨ws, q', r'⟩
  · rename_i n
    split at h
    · rename_i ds q
      cases h
      obtain ⟨a, rfl, hn⟩ := ref_inv r
      obtain ⟨vs, q1, r1⟩ := m.cell n a _ hn q
      refine .lst ⟨vs, .inl (.inl q1)⟩ fun L' H' M' mv m' c => ?_
      obtain ⟨ws, q2, r2⟩ := m'.cell n a _ (mv.get n a hn) c
      exact ⟨ws, .inl (.inl q2), r2⟩
    · cases h
  · cases h
theorem it_str {z : Str} {chk : Mem → Prop} : ItIs K L H ⟨z.cps.toList.map (fun c => D.str ⟨#[c]⟩), chk⟩ (Its z) := fun L' H' M' mv m c i => by
  refine ⟨fun d e => ?_, fun hl => ?_⟩
  · rw [List.getElem?_map] at e
    obtain ⟨c, hc, rfl⟩ := Option.map_eq_some_iff.mp e
    have hc' : z.cps[i]? = some c := by simpa using hc
    refine ⟨(Array.getElem?_eq_some_iff.mp hc').1, fun x H'' y => ?_⟩
    obtain ⟨rfl, c2, h2, rfl⟩ := y
    rw [hc'] at h2
    cases h2
    exact ⟨Step.refl, m, .str _⟩
  · show z.cps.size ≤ i
    rw [← hl]
    simp
theorem it_range {lo : Int} {n : Nat} {chk : Mem → Prop} : ItIs K L H ⟨(List.range n).map fun i => .int (lo + (i : Nat)), chk⟩ (Itr lo n) := fun L' H' M' mv m c i => by
  refine ⟨fun d e => ?_, fun hl => ?_⟩
  · rw [List.getElem?_map] at e
    obtain ⟨k, hk, rfl⟩ := Option.map_eq_some_iff.mp e
    obtain ⟨h1, h2⟩ := List.getElem?_eq_some_iff.mp hk
    rw [List.getElem_range] at h2
    subst h2
    refine ⟨show i < n by simpa using h1, fun x H'' y => ?_⟩
    obtain ⟨rfl, rfl⟩ := y
    exact ⟨Step.refl, m, .int _⟩
  · show n ≤ i
    rw [← hl]
    simp
end
section
variable {G : Gd} {k : Nat} {E : XK} {N : List Str} {sc : Scope} {X : Cx} {a b e o tg : Expr} {es : List Expr} {ma mb mo : ME} {mr : MA} {pos p p2 tpos : Pos}
def mIter (ma : ME) : MI := fun env M => (ma env M).bind fun d M1 => match itemsOf d M1 with
  | some t => .ok t M1
  | none => .bad
theorem ci_any (c : Cq G k E N sc X) (ha : PE X a (tD G.K E ma)) : PI X tg a (tID G.K E (mIter ma)) := by
  obtain rfl := c.g
  refine (pi_any ha).imp fun σ H R ⟨env, L, M, he, hm, h⟩ => ?_
  refine ⟨env, L, M, he, hm, Fin.imp (Fin.bind h) fun x H1 ⟨d, M1, L1, s1, m1, r1, h1⟩ => ?_⟩
  cases q : itemsOf d M1 with
  | none =>
    rw [q] at h1
    exact h1.elim
  | some t =>
    rw [q] at h1
    cases itemsOf_ok m1 r1 q with
    | lst ex go => exact .inl ⟨_, rfl, ex, h1.end_ m1 (it_list go)⟩
    | tup ex go => exact .inr (.inl ⟨_, rfl, ex, h1.end_ m1 (it_tup go)⟩)
    | str es =>
      obtain ⟨its, chk⟩ := t
      cases es
      exact .inr (.inr ⟨_, rfl, h1.end_ m1 it_str⟩)
def enumOf (d : D) (M : Mem) : Option Itm := match d with
  | .str _ => none
  | d => (itemsOf d M).map fun t => ⟨numbered t.items, t.chk⟩
def mEnum (ma : ME) : MI := fun env M => (ma env M).bind fun d M1 => match enumOf d M1 with
  | some t => .ok t M1
  | none => .bad
def rngOk (i : Int) : Prop := -(2 ^ 62) ≤ i ∧ i < 2 ^ 62
open Classical in
noncomputable def rng1 (ds : List D) (M : Mem) : Res Itm := match ds with
  | [.int j] => if rngOk j then .ok ⟨(List.range j.toNat).map fun i => .int (0 + (i : Nat)), fun _ => True⟩ M else .bad
  | _ => .bad
open Classical in
noncomputable def rng2 (ds : List D) (M : Mem) : Res Itm := match ds with
  | [.int i, .int j] => if rngOk i ∧ rngOk j then .ok ⟨(List.range (j - i).toNat).map fun n => .int (i + (n : Nat)), fun _ => True⟩ M else .bad
  | _ => .bad
open Classical in
noncomputable def rng3 (ds : List D) (M : Mem) : Res Itm := match ds with
  | [.int i, .int j, .int c] => if rngOk i ∧ rngOk j ∧ c = -1 then .ok ⟨(List.range (i - j).toNat).map fun n => .int (i + (n : Nat) * -1), fun _ => True⟩ M else .bad
  | _ => .bad
def mRng (f : List D → Mem → Res Itm) (mr : MA) : MI := fun env M => (mr env M).bind fun ds M1 => f ds M1
theorem ci_range1 (c : Cq G k E N sc X) (hg : GlS sc "range") (hm : G.mg "range" = none) (ha : PA X [a] (tAD G.K E mr)) (hs : starEach [a] X.env = [(false, eval a X.env)] := by rfl) :
    PI X tg (.Call (.Name "range" p) [a] [] pos) (tID G.K E (mRng rng1 mr)) := by
  obtain rfl := c.g
  refine (pi_range1 (c.gl hg) hm ha hs).imp fun σ H R ⟨env, L, M, he, hm, h⟩ => ?_
  refine ⟨env, L, M, he, hm, Fin.imp (Fin.bind h) fun vs H1 ⟨ds, M1, L1, s1, m1, r1, h1⟩ => ?_⟩
  unfold rng1 at h1
  split at h1
  · split at h1
    · rename_i ok
      cases r1 with
      | cons r1 r2 =>
        cases r2
        cases r1
        exact ⟨_, rfl, ok.1, ok.2, h1.end_ m1 it_range⟩
    · exact h1.elim
  · exact h1.elim
end
end Ly
namespace Ly
open PySem PySem.Spec PyProof.Rows L2
def fLen : MF := fun ds M => match ds with
  | [.str z] => if szOk z.length then .ok (.int (z.length : Nat)) M else .bad
  | [d] => (match dicOf d M with
    | some kvs => .ok (.int (kvs.length : Nat)) M
    | none => (match seqOf d M with
      | some xs => .ok (.int (xs.length : Nat)) M
      | none => .bad))
  | _ => .bad
def rLenA (K : PySem.W.Frag) : List V → Hp → VK → Prop := fun xs H Q => ((∃ p ys, xs = [.ref p] ∧ (SqL K H p ys ∨ SqT K H p ys) ∧ Q (.int ys.length) H) ∨ (∃ a kvs, xs = [V.ref a] ∧ H a = some (.dK kvs) ∧ Q (.int kvs.length) H)) ∨ ∃ x n, xs = [x] ∧ LenV K x H n ∧ Q (.int n) H
theorem call_lenA {X : Cx} : CallR X (.builtin "len") (rLenA X.K) := (call_len_seq.or call_lenD).or call_len
theorem one_inv {K : PySem.W.Frag} {L : Wd} {H : Hp} {d : D} {xs : List V} (r : IsL K L H [d] xs) : ∃ v, xs = [v] ∧ Is K L H d v := by
  cases r with
  | cons a b =>
    cases b
    exact ⟨_, rfl, a⟩
theorem two_inv {K : PySem.W.Frag} {L : Wd} {H : Hp} {d e : D} {xs : List V} (r : IsL K L H [d, e] xs) : ∃ v w, xs = [v, w] ∧ Is K L H d v ∧ Is K L H e w := by
  cases r with
  | cons a b =>
    obtain ⟨w, rfl, c⟩ := one_inv b
    exact ⟨_, w, rfl, a, c⟩
theorem rs_len {K : PySem.W.Frag} : RSC K (rLenA K) fLen := by
  intro E L H M ds xs Q m rl h
  unfold fLen at h
  split at h
  · obtain ⟨v, rfl, r⟩ := one_inv rl
    split at h
    · rename_i hz
      cases r
      exact .inr ⟨_, _, rfl, ⟨szOk.le hz, rfl⟩, h.end_ m (.int _)⟩
    · exact h.elim
  · obtain ⟨v, rfl, r⟩ := one_inv rl
    split at h
    · rename_i kvs hd
      obtain ⟨a, kws, rfl, q, rk⟩ := dicOf_ok m r hd
      exact .inl (.inr ⟨a, kws, rfl, q, by rw [← rk.length]; exact h.end_ m (.int _)⟩)
    · split at h
      · rename_i ys hs
        obtain ⟨a, vs, rfl, q, rk⟩ := seqOf_ok m r hs
        exact .inl (.inl ⟨a, vs, rfl, q, by rw [← rk.length]; exact h.end_ m (.int _)⟩)
      · exact h.elim
  · exact h.elim
def tyName (d : D) (M : Mem) : Option String := match d with
  | .non => some "NoneType"
  | .bl _ => some "bool"
  | .int _ => some "int"
  | .str _ => some "str"
  | .tup _ => some "tuple"
  | .ftu _ => some "tuple"
  | .lst _ => some "list"
  | .scr _ => some "list"
  | .dic _ => some "dict"
  | .ref n => (match M[n]? with
    | some (.lst _) => some "list"
    | some (.dic _) => some "dict"
    | _ => none)
  | _ => none
def fIsi : MF := fun ds M => match ds with
  | [d, .ty n] => (match (tyName d M).bind fun t => kitB t n with
    | some b => .ok (.bl b) M
    | none => .bad)
  | _ => .bad
theorem ty_tup {K : PySem.W.Frag} {H : Hp} {a : Addr} {vs : List V} (q : SqT K H a vs) : TyX K H (.ref a) (.type "tuple") := by
  rcases q with (q | ⟨o, q⟩) | ⟨o, its, n, q, c, _⟩
  · exact .base (.tup q)
  · exact .fTuple q
  · exact .kTuple q c
theorem ty_lst' {K : PySem.W.Frag} {H : Hp} {a : Addr} {vs : List V} (q : SqL K H a vs) : TyX K H (.ref a) (.type "list") := by
  rcases q with (q | ⟨o, q⟩) | ⟨o, its, n, q, c, _⟩
  · exact .base (.lst q)
  · exact .base (.frz q)
  · exact .kList q c
theorem tyName_ok {K : PySem.W.Frag} {L : Wd} {H : Hp} {M : Mem} {d : D} {v : V} {t : String} (m : MemIs K L H M) (r : Is K L H d v) (h : tyName d M = some t) : TyX K H v (.type t) := by
  unfold tyName at h
  split at h
  · cases h; cases r; exact .base .non
  · cases h; cases r; exact .base (.bl _)
  · cases h; cases r; exact .base (.int _)
  · cases h; cases r; exact .base (.str _)
  · cases h
    obtain ⟨a, vs, rfl, q, _⟩ := r.tup_inv
    exact ty_tup q
  · cases h
    obtain ⟨a, vs, rfl, q, _⟩ := r.ftu_inv
    exact ty_tup q
  · cases h
    obtain ⟨a, vs, rfl, q, _⟩ := r.lst_inv
    exact .base (.lst q)
  · cases h
    obtain ⟨a, vs, rfl, q, _⟩ := r.scr_inv
    exact ty_lst' q
  · cases h
    cases r with
    | dic q _ _ => exact .base (.dK q)
  · obtain ⟨a, rfl, hn⟩ := ref_inv r
    split at h
    · rename_i q
      cases h
      obtain ⟨vs, q1, _⟩ := m.cell _ a _ hn q
      exact .base (.lst q1)
    · rename_i q
      cases h
      obtain ⟨vs, q1, _⟩ := m.cell _ a _ hn q
      exact .base (.dK q1)
    · cases h
  · cases h
theorem rs_isi {K : PySem.W.Frag} : RSC K (rIsi K) fIsi := by
  intro E L H M ds xs Q m rl h
  unfold fIsi at h
  split at h
  · obtain ⟨v, w, rfl, r1, r2⟩ := two_inv rl
    split at h
    · rename_i b hb
      obtain ⟨t, h1, h2⟩ := Option.bind_eq_some_iff.mp hb
      cases r2
      exact ⟨v, _, .type t, _, b, rfl, .ty _, tyName_ok m r1 h1, kit_ty h2, h.end_ m (.bl _)⟩
    · exact h.elim
  · exact h.elim
def fTuple : MF := fun ds M => match ds with
  | [.tup xs] => .ok (.tup xs) M
  | [.ftu xs] => .ok (.ftu xs) M
  | [d] => (match lstOf d M with
    | some xs => .ok (.tup xs) M
    | none => .bad)
  | _ => .bad
theorem rs_tuple {K : PySem.W.Frag} : RSC K (fun xs H Q => ∃ p ys, xs = [.ref p] ∧ ((SqL K H p ys ∧ ∀ l, H l = none → Q (.ref l) (upd H l (.tup ys))) ∨ (SqT K H p ys ∧ Q (.ref p) H))) fTuple := by
  intro E L H M ds xs Q m rl h
  unfold fTuple at h
  split at h
  · obtain ⟨v, rfl, r⟩ := one_inv rl
    obtain ⟨a, vs, rfl, q, _⟩ := r.tup_inv
    exact ⟨a, vs, rfl, .inr ⟨q, h.end_ m r⟩⟩
  · obtain ⟨v, rfl, r⟩ := one_inv rl
    obtain ⟨a, vs, rfl, q, _⟩ := r.ftu_inv
    exact ⟨a, vs, rfl, .inr ⟨q, h.end_ m r⟩⟩
  · obtain ⟨v, rfl, r⟩ := one_inv rl
    split at h
    · rename_i ys hs
      obtain ⟨a, vs, rfl, q, rk⟩ := lstOf_ok m r hs
      exact ⟨a, vs, rfl, .inl ⟨q, new_tup m rk h⟩⟩
    · exact h.elim
  · exact h.elim
def fList : MF := fun ds M => match ds with
  | [d] => (match seqOf d M with
    | some xs => .ok (.lst xs) M
    | none => .bad)
  | _ => .bad
def rListA (K : PySem.W.Frag) : List V → Hp → VK → Prop := fun xs H Q => ∃ p ys, xs = [.ref p] ∧ (SqL K H p ys ∨ SqT K H p ys) ∧ ∀ l, H l = none → Q (.ref l) (upd H l (.lst ys))
theorem call_listA {X : Cx} : CallR X (.type "list") (rListA X.K) := call_list_of
theorem rs_list {K : PySem.W.Frag} : RSC K (rListA K) fList := by
  intro E L H M ds xs Q m rl h
  unfold fList at h
  split at h
  · obtain ⟨v, rfl, r⟩ := one_inv rl
    split at h
    · rename_i ys hs
      obtain ⟨a, vs, rfl, q, rk⟩ := seqOf_ok m r hs
      exact ⟨a, vs, rfl, q, new_lst m rk h⟩
    · exact h.elim
  · exact h.elim
def blsOf : List D → Option (List Bool)
  | [] => some []
  | .bl x :: ds => (blsOf ds).map fun xs => x :: xs
  | _ => none
theorem blsOf_ok {K : PySem.W.Frag} {L : Wd} {H : Hp} : ∀ {ds : List D} {vs : List V} {xs : List Bool}, IsL K L H ds vs → blsOf ds = some xs → vs = xs.map V.bl
  | _, _, _, .nil, h => by cases h; rfl
  | _, _, _, .cons a b, h => by
    cases a <;> first | (cases (show (none : Option (List Bool)) = some _ from h)) | skip
    obtain ⟨ys, e, rfl⟩ := Option.map_eq_some_iff.mp h
    rw [blsOf_ok b e]
    rfl
def intsOf : List D → Option (List Int)
  | [] => some []
  | .int x :: ds => (intsOf ds).map fun xs => x :: xs
  | _ => none
theorem intsOf_ok {K : PySem.W.Frag} {L : Wd} {H : Hp} : ∀ {ds : List D} {vs : List V} {xs : List Int}, IsL K L H ds vs → intsOf ds = some xs → vs = xs.map V.int
  | _, _, _, .nil, h => by cases h; rfl
  | _, _, _, .cons a b, h => by
    cases a <;> first | (cases (show (none : Option (List Int)) = some _ from h)) | skip
    obtain ⟨ys, e, rfl⟩ := Option.map_eq_some_iff.mp h
    rw [intsOf_ok b e]
    rfl
def fBools (g : List Bool → Bool) : MF := fun ds M => match ds with
  | [d] => (match (lstOf d M).bind blsOf with
    | some bs => .ok (.bl (g bs)) M
    | none => .bad)
  | _ => .bad
def fSum : MF := fun ds M => match ds with
  | [d] => (match (lstOf d M).bind intsOf with
    | some ns => .ok (.int ns.sum) M
    | none => .bad)
  | _ => .bad
theorem rs_bools {K : PySem.W.Frag} {g : List Bool → Bool} : RSC K (fun vs H Q => ∃ (a : Addr) (bs : List Bool), vs = [V.ref a] ∧ SqL K H a (bs.map V.bl) ∧ Q (.bl (g bs)) H) (fBools g) := by
  intro E L H M ds xs Q m rl h
  unfold fBools at h
  split at h
  · obtain ⟨v, rfl, r⟩ := one_inv rl
    split at h
    · rename_i bs hs
      obtain ⟨es, h1, h2⟩ := Option.bind_eq_some_iff.mp hs
      obtain ⟨a, vs, rfl, q, rk⟩ := lstOf_ok m r h1
      obtain rfl := blsOf_ok rk h2
      exact ⟨a, bs, rfl, q, h.end_ m (.bl _)⟩
    · exact h.elim
  · exact h.elim
theorem rs_all {K : PySem.W.Frag} : RSC K (rAll K) (fBools fun bs => bs.all id) := rs_bools
theorem rs_sum {K : PySem.W.Frag} : RSC K (rSum K) fSum := by
  intro E L H M ds xs Q m rl h
  unfold fSum at h
  split at h
  · obtain ⟨v, rfl, r⟩ := one_inv rl
    split at h
    · rename_i bs hs
      obtain ⟨es, h1, h2⟩ := Option.bind_eq_some_iff.mp hs
      obtain ⟨a, vs, rfl, q, rk⟩ := lstOf_ok m r h1
      obtain rfl := intsOf_ok rk h2
      exact ⟨a, bs, rfl, q, h.end_ m (.int _)⟩
    · exact h.elim
  · exact h.elim
def fInt1 : MF := fun ds M => match ds with
  | [.int i] => .ok (.int i) M
  | [.bl b] => .ok (.int (if b then 1 else 0)) M
  | _ => .bad
def fMax2 : MF := fun ds M => match ds with
  | [.int i, .int j] => .ok (.int (if j > i then j else i)) M
  | _ => .bad
section
variable {G : Gd} {k : Nat} {E : XK} {N : List Str} {sc : Scope} {X : Cx} {a b e o kx vx : Expr} {es : List Expr} {ma mb mo : ME} {mr : MA} {pos p p2 apos cpos : Pos}
def mPairs : List (ME × ME) → Env → Mem → Res (List (D × D))
  | [], _, M => .ok [] M
  | (mk, mv) :: r, env, M => (mk env M).bind fun x M1 => (mv env M1).bind fun y M2 => (mPairs r env M2).bind fun ps M3 => .ok ((x, y) :: ps) M3
def keysOf : List (D × D) → Option (List (Key × D))
  | [] => some []
  | (x, y) :: r => (keyOf x).bind fun k => (keysOf r).map fun ks => (k, y) :: ks
inductive IsP (K : PySem.W.Frag) (L : Wd) (H : Hp) : List (D × D) → List (V × V) → Prop
  | nil : IsP K L H [] []
  | cons {x y : D} {u v : V} {r : List (D × D)} {s : List (V × V)} : Is K L H x u → Is K L H y v → IsP K L H r s → IsP K L H ((x, y) :: r) ((u, v) :: s)
theorem IsP.mv {K : PySem.W.Frag} {L L' : Wd} {H H' : Hp} (s : Mv L H L' H') : ∀ {r : List (D × D)} {t : List (V × V)}, IsP K L H r t → IsP K L' H' r t
  | _, _, .nil => .nil
  | _, _, .cons a b c => .cons (a.mv s) (b.mv s) (IsP.mv s c)
theorem keysOf_ok {K : PySem.W.Frag} {L : Wd} {H : Hp} : ∀ {r : List (D × D)} {t : List (V × V)} {ks : List (Key × D)}, IsP K L H r t → keysOf r = some ks → ∃ ws : List (Key × V), t = ws.map (fun kv => (kV kv.1, kv.2)) ∧ IsKV K L H ks ws
  | _, _, _, .nil, h => by cases h; exact ⟨[], rfl, .nil⟩
  | _, _, _, .cons a b c, h => by
    obtain ⟨k, h1, h⟩ := Option.bind_eq_some_iff.mp h
    obtain ⟨ks, h2, rfl⟩ := Option.map_eq_some_iff.mp h
    obtain ⟨ws, rfl, r⟩ := keysOf_ok c h2
    obtain rfl := key_ok a h1
    exact ⟨(k, _) :: ws, rfl, .cons b r⟩
theorem Fin.assoc {α β γ ε : Type} {K : PySem.W.Frag} {L : Wd} {H : Hp} {Rm : Wd → Hp → γ → ε → Prop} {r : Res α} {f : α → Mem → Res β} {g : β → Mem → Res γ} {Q : ε → Hp → Prop} (h : Fin Rm K E L H ((r.bind f).bind g) Q) : Fin Rm K E L H (r.bind fun a M => (f a M).bind g) Q := by
  cases r <;> exact h
def trsOf (K : PySem.W.Frag) (E : XK) (ms : List (ME × ME)) : List (TE × TE) := ms.map fun m => (tD K E m.1, tD K E m.2)
theorem pairs_under {p : Addr} {L : Wd} {H : Hp} (hp : H p = none) {env : Env} {σ : L2.St} {Q : List (V × V) → Hp → Prop} : ∀ (ms : List (ME × ME)) (L0 : Wd) (H0 : Hp) (M0 : Mem) (f : List (D × D) → Mem → Res D) (Q' : VK), Step L H L0 H0 → MemIs G.K (L0.hide p) H0 M0 → EnvIs G.K (L0.hide p) H0 env σ →
    Fin (Is G.K) G.K E L H ((mPairs ms env M0).bind f) Q' →
    (∀ ps vs L1 H1 M1, Step L H L1 H1 → H1 p = H0 p → Mv (L0.hide p) H0 (L1.hide p) H1 → MemIs G.K (L1.hide p) H1 M1 → IsP G.K (L1.hide p) H1 ps vs → Fin (Is G.K) G.K E L H (f ps M1) Q' → Q vs H1) → tPairs (trsOf G.K E ms) σ H0 Q := by
  intro ms
  induction ms generalizing Q with
  | nil => exact fun L0 H0 M0 f Q' s0 m0 e0 h go => go [] [] L0 H0 M0 s0 rfl Mv.refl m0 .nil h
  | cons m ms ih =>
    intro L0 H0 M0 f Q' s0 m0 e0 h go
    obtain ⟨mk, mv⟩ := m
    replace h : Fin (Is G.K) G.K E L H ((mk env M0).bind fun x M1 => ((mv env M1).bind fun y M2 => (mPairs ms env M2).bind fun ps M3 => .ok ((x, y) :: ps) M3).bind f) Q' := Fin.assoc h
    refine ⟨env, L0.hide p, M0, e0, m0, Fin.imp (Fin.under hp s0 h) fun u H1 ⟨x, M1, L1, s1, q1, m1, r1, v1, h1⟩ => ?_⟩
    replace h1 := Fin.assoc h1
    refine ⟨env, L1.hide p, M1, e0.mv v1, m1, Fin.imp (Fin.under hp s1 h1) fun v H2 ⟨y, M2, L2, s2, q2, m2, r2, v2, h2⟩ => ?_⟩
    refine ih L2 H2 M2 (fun ps M3 => f ((x, y) :: ps) M3) Q' s2 m2 ((e0.mv v1).mv v2) ?_ fun ps vs L3 H3 M3 s3 q3 v3 m3 r3 h3 => ?_
    · have := Fin.assoc h2
      revert this
      cases mPairs ms env M2 <;> exact id
    · exact go ((x, y) :: ps) ((u, v) :: vs) L3 H3 M3 s3 (q3.trans (q2.trans q1)) ((v1.trans v2).trans v3) m3 (.cons ((r1.mv v2).mv v3) (r2.mv v3) r3) h3
end
end Ly
namespace Ly
open PySem PySem.Spec PyProof.Rows L2
section
variable {K : PySem.W.Frag} {L L1 : Wd} {H H1 : Hp} {M : Mem} {p : Addr}
theorem Mv.land : Mv (L.hide p) H (L.add p) H := ⟨fun n a h => by
  show (L.l ++ [p])[n]? = some a
  have h : L.l[n]? = some a := h
  rw [List.getElem?_append_left (List.getElem?_eq_some_iff.mp h).1]
  exact h, fun a o e n _ => ⟨e, fun z => by
    rcases List.mem_append.mp z with z | z
    · exact n.1 z
    · exact out_ne n (by simpa using z), fun z => n.2 (List.mem_cons_of_mem _ z)⟩⟩
theorem MemIs.land {c : Cell} (m : MemIs K (L.hide p) H M) (np : p ∉ L.z) (hc : CellIs K (L.add p) H c p) : MemIs K (L.add p) H (M ++ [c]) := by
  have hn : p ∉ L.l := (m.hid p List.mem_cons_self).1
  have ml : L.l.length = M.length := m.len
  refine ⟨by simp [Wd.add, ml], ?_, fun n a c' e q => ?_, fun a h => ⟨fun z => ?_, (m.hid a (List.mem_cons_of_mem _ h)).2⟩, m.tab.mv Mv.land fun P ps e n => ⟨rfl, fun z => by
    rcases List.mem_append.mp z with z | z
    · exact n.1 z
    · exact out_ne n (by simpa using z), fun z => n.2 (List.mem_cons_of_mem _ z)⟩⟩
  · show (L.l ++ [p]).Nodup
    rw [List.nodup_append]
    exact ⟨m.nd, by simp, fun a ha b hb => by
      have : b = p := by simpa using hb
      subst this
      exact fun z => hn (z ▸ ha)⟩
  · have e : (L.l ++ [p])[n]? = some a := e
    by_cases h : n < L.l.length
    · rw [List.getElem?_append_left h] at e
      rw [List.getElem?_append_left (by rw [← ml]; exact h)] at q
      exact (m.cell n a c' e q).mv Mv.land rfl
    · rw [List.getElem?_append_right (by omega)] at e
      rw [List.getElem?_append_right (by rw [← ml]; omega)] at q
      have hk : n - L.l.length = 0 := by
        have := (List.getElem?_eq_some_iff.mp e).1
        simp at this
        omega
      rw [hk] at e
      rw [show n - M.length = 0 by rw [← ml]; exact hk] at q
      simp at e q
      subst e
      subst q
      exact hc
  · rcases List.mem_append.mp z with z | z
    · exact (m.hid a (List.mem_cons_of_mem _ h)).1 z
    · exact np (by rw [← show a = p by simpa using z]; exact h)
theorem Step.land (s : Step L H L1 H1) (hp : H p = none) : Step L H (L1.add p) H1 := by
  obtain ⟨l, e⟩ := s.more
  refine ⟨⟨l ++ [p], by show L1.l ++ [p] = _; rw [e, List.append_assoc]⟩, s.same, s.hid, fun a o q n t => ⟨(s.keep a o q n t).1, fun z => ?_, (s.keep a o q n t).2.2⟩⟩
  rcases List.mem_append.mp z with z | z
  · exact (s.keep a o q n t).2.1 z
  · exact ne_of_none q hp (by simpa using z)
def bdD (k : Bool) (kvs : List (Key × D)) (M : Mem) : Res D := if k then .ok (.ref M.length) (M ++ [.dic kvs]) else .ok (.dic kvs) M
variable {E : XK} {Q : VK}
theorem bdD_ok {k : Bool} {kvs : List (Key × D)} {kws : List (Key × V)} (s : Step L H L1 H1) (hp : H p = none) (np : p ∉ L.z) (m : MemIs K (L1.hide p) H1 M) (q : H1 p = some (.dK kws)) (r : IsKV K (L1.hide p) H1 kvs kws) (h : Fin (Is K) K E L H (bdD k kvs M) Q) : Q (.ref p) H1 := by
  have np1 : p ∉ L1.z := by rw [s.same]; exact np
  unfold bdD at h
  split at h
  · refine h (L1.add p) H1 _ (s.land hp) (m.land np1 ⟨kws, q, r.mv Mv.land⟩) (.ref ?_)
    have : L1.l.length = M.length := m.len
    rw [← this]
    simp [Wd.add]
  · exact h L1 H1 _ s m.show (.dic q ⟨(m.hid p List.mem_cons_self).1, np1⟩ (r.mv Mv.show))
end
def mDisp (kp : Bool) (ms : List (ME × ME)) : ME := fun env M => (mPairs ms env M).bind fun ps M1 => match keysOf ps with
  | some ks => if ks.length ≤ 15 then bdD kp (mergeD [] ks) M1 else .bad
  | none => .bad
def mDNew (kp : Bool) : ME := fun _ M => bdD kp [] M
section
variable {G : Gd} {k : Nat} {E : XK} {N : List Str} {sc : Scope} {X : Cx} {pos : Pos} {kp : Bool}
theorem ce_dnew : PE X (.Dict [] [] pos) (tD G.K E (mDNew kp)) := pe_dnewK.imp fun σ H Q ⟨env, L, M, he, hm, h⟩ p hp =>
  bdD_ok (Step.new hm hp).1 hp (hm.out hp).2 (hm.hide hp) upd_same .nil h
theorem ce_disp {keys : List (Option Expr)} {values : List Expr} {ms : List (ME × ME)} (h : PPs X pos keys values (trsOf G.K E ms)) (hall : keys.all (·.isSome) = true := by rfl) (hl : keys.length = values.length := by rfl) (h0 : keys ≠ [] := by nofun) (h15 : keys.length ≤ 15 := by decide) :
    PE X (.Dict keys values pos) (tD G.K E (mDisp kp ms)) := by
  refine (pe_disp h hall hl h0 h15).imp fun σ H Q ⟨env, L, M, he, hm, h⟩ p hp => ?_
  refine pairs_under hp ms L (upd H p (.dK [])) M _ Q (Step.new hm hp).1 (hm.hide hp) (he.mv (Mv.hide hp)) h fun ps vs L1 H1 M1 s1 q1 v1 m1 r1 h1 => ?_
  cases e : keysOf ps with
  | none =>
    simp only [e] at h1
    exact h1.elim
  | some ks =>
    simp only [e] at h1
    obtain ⟨ws, rfl, rw_⟩ := keysOf_ok r1 e
    split at h1
    · next hz =>
      refine ⟨q1.trans upd_same, ws, rfl, by rw [← rw_.length]; exact hz, ?_⟩
      exact bdD_ok (s1.built (hm.out hp).2 hp) hp (hm.out hp).2 m1.built upd_same ((merge_ok rw_ .nil).mv Mv.built) h1
    · exact h1.elim
theorem cps_cons {ka va : Expr} {ks : List (Option Expr)} {vs : List Expr} {mk mw : ME} {ms : List (ME × ME)} (hk : PE X ka (tD G.K E mk)) (hv : PE X va (tD G.K E mw)) (hr : PPs X pos ks vs (trsOf G.K E ms)) : PPs X pos (some ka :: ks) (va :: vs) (trsOf G.K E ((mk, mw) :: ms)) := pps_cons hk hv hr
theorem cps_nil : PPs X pos [] [] (trsOf G.K E []) := pps_nil
open Classical in
noncomputable def compD (g : GD) (t : MT) (ek el : ME) (chk : Mem → Prop) (env : Env) : List D → List (Key × D) → Mem → Res (List (Key × D))
  | [], acc, M => if chk M then .ok acc M else .bad
  | d :: ds, acc, M => if chk M then (match g.f d env with
      | some env' => (noX (t env' M)).bind fun c M1 => if c then (noX (ek env' M1)).bind fun x M2 => (noX (el env' M2)).bind fun y M3 => (match keyOf x with
          | some ky => if szOk (acc.length + 1) then compD g t ek el chk env ds (putD acc ky y) M3 else .bad
          | none => .bad) else compD g t ek el chk env ds acc M1
      | none => .bad) else .bad
noncomputable def mDc (kp : Bool) (mi : MI) (g : GD) (t : MT) (ek el : ME) (vs : List Nat) : ME := fun env M => (mi env M).bind fun it M1 => (compD g t ek el it.chk (wipeD env vs) it.items [] M1).bind fun ds M2 => bdD kp ds M2
end
end Ly
namespace L2
open PySem PySem.Spec PyProof.Rows
variable {X : Cx}
end L2
namespace Ly
open PySem PySem.Spec PyProof.Rows L2
section
variable {G : Gd} {k : Nat} {E : XK} {N : List Str} {sc : Scope} {X : Cx} {pos : Pos} {kp : Bool}
end
end Ly
namespace Ly
open PySem PySem.Spec PyProof.Rows L2
section
variable {G : Gd} {k : Nat} {E : XK} {N : List Str} {sc : Scope} {X : Cx} {a b e o : Expr} {es : List Expr} {ma mb mo : ME} {mr : MA} {pos p p2 apos cpos : Pos}
theorem hu64 {k : Nat} {A : Around} (r : Room k A) : A.units + 64 < cLine := by
  have := r.un
  omega
theorem ce_add (c : Cq G k E N sc X) (ha : PE X a (tD G.K E ma)) (hb : PE X b (tD G.K E mb)) : PE X (.BinOp a .Add b pos) (tD G.K E (mBin opAdd ma mb)) := by
  obtain rfl := c.g
  exact ce_op op_addA rs_add ha hb
theorem ce_sub (c : Cq G k E N sc X) (ha : PE X a (tD G.K E ma)) (hb : PE X b (tD G.K E mb)) : PE X (.BinOp a .Sub b pos) (tD G.K E (mBin opSub ma mb)) := by
  obtain rfl := c.g
  exact ce_op op_sub rs_sub ha hb
theorem ce_fdiv (c : Cq G k E N sc X) (ha : PE X a (tD G.K E ma)) (hb : PE X b (tD G.K E mb)) : PE X (.BinOp a .FloorDiv b pos) (tD G.K E (mBin opFdiv ma mb)) := by
  obtain rfl := c.g
  exact ce_op op_fdivN rs_fdiv ha hb
theorem ce_mod (c : Cq G k E N sc X) (ha : PE X a (tD G.K E ma)) (hb : PE X b (tD G.K E mb)) : PE X (.BinOp a .Mod b pos) (tD G.K E (mBin opMod ma mb)) := by
  obtain rfl := c.g
  exact ce_op op_modN rs_mod ha hb
theorem ce_pow (c : Cq G k E N sc X) (ha : PE X a (tD G.K E ma)) (hb : PE X b (tD G.K E mb)) : PE X (.BinOp a .Pow b pos) (tD G.K E (mBin opPow ma mb)) := by
  obtain rfl := c.g
  exact ce_op op_pow rs_pow ha hb
theorem ct_lt (c : Cq G k E N sc X) (ha : PE X a (tD G.K E ma)) (hb : PE X b (tD G.K E mb))  : PT X (.Compare a [.Lt] [b] pos) (tTD G.K E (mTest (mBin opLt ma mb))) := by
  obtain rfl := c.g
  exact ct_cmp op_lt rs_lt ha hb (nomark b)
theorem ct_gt (c : Cq G k E N sc X) (ha : PE X a (tD G.K E ma)) (hb : PE X b (tD G.K E mb))  : PT X (.Compare a [.Gt] [b] pos) (tTD G.K E (mTest (mBin opGt ma mb))) := by
  obtain rfl := c.g
  exact ct_cmp op_gt rs_gt ha hb (nomark b)
theorem ce_ge (c : Cq G k E N sc X) (ha : PE X a (tD G.K E ma)) (hb : PE X b (tD G.K E mb))  : PE X (.Compare a [.GtE] [b] pos) (tD G.K E (mBin opGe ma mb)) := by
  obtain rfl := c.g
  exact ce_cmp op_ge rs_ge ha hb (nomark b)
theorem ct_ge (c : Cq G k E N sc X) (ha : PE X a (tD G.K E ma)) (hb : PE X b (tD G.K E mb))  : PT X (.Compare a [.GtE] [b] pos) (tTD G.K E (mTest (mBin opGe ma mb))) := by
  obtain rfl := c.g
  exact ct_cmp op_ge rs_ge ha hb (nomark b)
theorem ce_eq (c : Cq G k E N sc X) (ha : PE X a (tD G.K E ma)) (hb : PE X b (tD G.K E mb))  : PE X (.Compare a [.Eq] [b] pos) (tD G.K E (mBin opEq ma mb)) := by
  obtain rfl := c.g
  exact ce_cmp (op_eqA (hu64 c.room)) rs_eq ha hb (nomark b)
theorem ct_eq (c : Cq G k E N sc X) (ha : PE X a (tD G.K E ma)) (hb : PE X b (tD G.K E mb))  : PT X (.Compare a [.Eq] [b] pos) (tTD G.K E (mTest (mBin opEq ma mb))) := by
  obtain rfl := c.g
  exact ct_cmp (op_eqA (hu64 c.room)) rs_eq ha hb (nomark b)
theorem ce_ne (c : Cq G k E N sc X) (ha : PE X a (tD G.K E ma)) (hb : PE X b (tD G.K E mb))  : PE X (.Compare a [.NotEq] [b] pos) (tD G.K E (mBin opNe ma mb)) := by
  obtain rfl := c.g
  exact ce_cmp (op_neA (hu64 c.room)) rs_ne ha hb (nomark b)
theorem ct_ne (c : Cq G k E N sc X) (ha : PE X a (tD G.K E ma)) (hb : PE X b (tD G.K E mb))  : PT X (.Compare a [.NotEq] [b] pos) (tTD G.K E (mTest (mBin opNe ma mb))) := by
  obtain rfl := c.g
  exact ct_cmp (op_neA (hu64 c.room)) rs_ne ha hb (nomark b)
theorem ce_len (c : Cq G k E N sc X) (hm : G.mg "len" = none) (ha : PA X (e :: es) (tAD G.K E mr)) (hg : sc.names.lookup ("len" : Str) = some NameKind.globalImplicit := by rfl)
    (he : starEach (e :: es) X.env = (false, eval e X.env) :: starEach es X.env := by rfl) (hpl : (backTo pos (starEach es X.env)).any (·.1) = false := by rfl) :
    PE X (.Call (.Name "len" p) (e :: es) [] pos) (tD G.K E (mCB fLen mr)) := by
  obtain rfl := c.g
  exact ce_callB call_lenA rs_len c hg hm (by decide +kernel) ha (by decide +kernel) (by decide +kernel) he hpl
theorem ce_isi (c : Cq G k E N sc X) (hm : G.mg "isinstance" = none) (ha : PA X (e :: es) (tAD G.K E mr)) (hg : sc.names.lookup ("isinstance" : Str) = some NameKind.globalImplicit := by rfl)
    (he : starEach (e :: es) X.env = (false, eval e X.env) :: starEach es X.env := by rfl) (hpl : (backTo pos (starEach es X.env)).any (·.1) = false := by rfl) :
    PE X (.Call (.Name "isinstance" p) (e :: es) [] pos) (tD G.K E (mCB fIsi mr)) := by
  obtain rfl := c.g
  exact ce_callB call_isi rs_isi c hg hm (by decide +kernel) ha (by decide +kernel) (by decide +kernel) he hpl
theorem ce_tuple (c : Cq G k E N sc X) (hm : G.mg "tuple" = none) (ha : PA X (e :: es) (tAD G.K E mr)) (hg : sc.names.lookup ("tuple" : Str) = some NameKind.globalImplicit := by rfl)
    (he : starEach (e :: es) X.env = (false, eval e X.env) :: starEach es X.env := by rfl) (hpl : (backTo pos (starEach es X.env)).any (·.1) = false := by rfl) :
    PE X (.Call (.Name "tuple" p) (e :: es) [] pos) (tD G.K E (mCB fTuple mr)) := by
  obtain rfl := c.g
  exact ce_callT call_tuple_of rs_tuple c hg hm (by decide +kernel) ha (by decide +kernel) (by decide +kernel) he hpl
theorem ce_list (c : Cq G k E N sc X) (hm : G.mg "list" = none) (ha : PA X (e :: es) (tAD G.K E mr)) (hg : sc.names.lookup ("list" : Str) = some NameKind.globalImplicit := by rfl)
    (he : starEach (e :: es) X.env = (false, eval e X.env) :: starEach es X.env := by rfl) (hpl : (backTo pos (starEach es X.env)).any (·.1) = false := by rfl) :
    PE X (.Call (.Name "list" p) (e :: es) [] pos) (tD G.K E (mCB fList mr)) := by
  obtain rfl := c.g
  exact ce_callT call_listA rs_list c hg hm (by decide +kernel) ha (by decide +kernel) (by decide +kernel) he hpl
theorem ce_all (c : Cq G k E N sc X) (hm : G.mg "all" = none) (ha : PA X (e :: es) (tAD G.K E mr)) (hg : sc.names.lookup ("all" : Str) = some NameKind.globalImplicit := by rfl)
    (he : starEach (e :: es) X.env = (false, eval e X.env) :: starEach es X.env := by rfl) (hpl : (backTo pos (starEach es X.env)).any (·.1) = false := by rfl) :
    PE X (.Call (.Name "all" p) (e :: es) [] pos) (tD G.K E (mCB (fBools fun bs => bs.all id) mr)) := by
  obtain rfl := c.g
  exact ce_callB (cr_all c.calm) rs_all c hg hm (by decide +kernel) ha (by decide +kernel) (by decide +kernel) he hpl
theorem ce_sum (c : Cq G k E N sc X) (hm : G.mg "sum" = none) (ha : PA X (e :: es) (tAD G.K E mr)) (hg : sc.names.lookup ("sum" : Str) = some NameKind.globalImplicit := by rfl)
    (he : starEach (e :: es) X.env = (false, eval e X.env) :: starEach es X.env := by rfl) (hpl : (backTo pos (starEach es X.env)).any (·.1) = false := by rfl) :
    PE X (.Call (.Name "sum" p) (e :: es) [] pos) (tD G.K E (mCB fSum mr)) := by
  obtain rfl := c.g
  exact ce_callB (cr_sum c.calm) rs_sum c hg hm (by decide +kernel) ha (by decide +kernel) (by decide +kernel) he hpl
theorem ce_append (c : Cq G k E N sc X) (ho : PE X o (tD G.K E mo)) (ha : PA X (e :: es) (tAD G.K E mr)) (hbase : attributeBase o "append" X.env (eval o X.env) = eval o X.env := by rfl)
    (hfew : ((backTo cpos (starEach (e :: es) X.env)).all (fun x => !x.1) && (backToKw cpos (keywordEach [] X.env)).all (fun x => x.1.isSome)
      && decide ((e :: es).length + ([] : List Keyword).length + (if ([] : List Keyword).isEmpty then 0 else 1) < 30)) = true := by rfl)
    (hline : (apos.endLine == cpos.line) = true := by rfl) (hs : starEach (e :: es) X.env = (false, eval e X.env) :: starEach es X.env := by rfl) (hplain : (backTo cpos (starEach es X.env)).any (·.1) = false := by rfl) :
    PE X (.Call (.Attribute o "append" apos) (e :: es) [] cpos) (tD G.K E (mMeth isLst fAppend mo mr)) := by
  obtain rfl := c.g
  exact ce_meth PySem.F.plainAttrs_list PySem.F.slot_list_append PySem.F.type_list_append mt_append ty_lst rs_append c ho ha hbase hfew hline hs hplain
theorem ce_pop (c : Cq G k E N sc X) (ho : PE X o (tD G.K E mo)) (hbase : attributeBase o "pop" X.env (eval o X.env) = eval o X.env := by rfl) (hline : (apos.endLine == cpos.line) = true := by rfl) : PE X (.Call (.Attribute o "pop" apos) [] [] cpos) (tD G.K E (mMeth isLst fPop mo mNil)) := by
  obtain rfl := c.g
  exact ce_meth0 PySem.F.plainAttrs_list PySem.F.slot_list_pop PySem.F.type_list_pop mt_pop ty_lst rs_pop c ho hbase hline
theorem ce_ty {T : String} {x : Str} (c : Cq G k E N sc X) (hm : G.mg x = none) (hg : sc.names.lookup x = some .globalImplicit) (hv : bootBuiltins x = some (.type T)) (hn : x ≠ "__name__" := by decide +kernel) (hd : (x == ("__debug__" : Str)) = false := by decide +kernel) : PE X (.Name x pos) (tD G.K E (mC (.ty T))) :=
  ce_bltn (v := .ty T) c hg hm hv rfl (fun _ _ => .ty T) hn hd
theorem ce_neg {i : Int} {j : Nat} {p1 : Pos} : PE X (.UnaryOp .USub (.Constant (.int i) j p1) pos) (tD G.K E (mC (.int (-i)))) := (pe_un un_neg pe_int).imp fun σ H Q ⟨env, L, M, he, hm, q⟩ => ⟨i, rfl, q.end_ hm (.int _)⟩
end
end Ly
namespace Ly
open PySem PySem.Spec PyProof.Rows L2
def visB (sc : Scope) (x : Str) : Bool := match sc.names.lookup x with
  | some .local => true
  | some .cell => true
  | some .free => true
  | _ => false
def locB (sc : Scope) (x : Str) : Bool := match sc.names.lookup x with
  | some .local => true
  | some .cell => true
  | _ => false
theorem vis_by {sc : Scope} {x : Str} (h : visB sc x = true) : Vis sc x := by
  unfold visB at h
  split at h
  · next e => exact .inl e
  · next e => exact .inr (.inl e)
  · next e => exact .inr (.inr e)
  · exact nomatch h
theorem loc_by {sc : Scope} {x : Str} (h : locB sc x = true) : Loc sc x := by
  unfold locB at h
  split at h
  · next e => exact .inl e
  · next e => exact .inr e
  · exact nomatch h
theorem fnT {X : Cx} {x : Str} {sc : Scope} (h : X.fn = fun _ => true) : X.fn x = true ∨ sc.names.lookup x = some NameKind.local := .inl (by rw [h])
theorem fnC {X : Cx} {x : Str} {sc scope : Scope} (h : X.fn = (fun x => scope.names.lookup x == some .cell)) (z : (scope.names.lookup x == some .cell) = true ∨ sc.names.lookup x = some NameKind.local) : X.fn x = true ∨ sc.names.lookup x = some NameKind.local := by
  rcases z with z | z
  · exact .inl (by rw [h]; exact z)
  · exact .inr z
section
variable {G : Gd} {k : Nat} {E : XK} {N : List Str} {sc : Scope} {X : Cx} {pos spos py : Pos} {i : Nat} {y : Str} {elt kx vx : Expr} {gs : List Comprehension} {scope : Scope} {m : ME}
end
section
variable {G : Gd} {k : Nat} {N ps : List Str} {sc : Scope} {x qual : Str} {params : Arguments} {body : List Stmt} {kws : List (Str × V)} {fd : FuncData} {m : MS}
theorem cal_D (F : FunD G.K x qual params body sc [] kws (He.ga G.K x) fd) (S : FnScope N ps sc) (gl : G.mg x = some (.ref (He.ga G.K x)))
    (h : ∀ (kV doc pm : Value) (an : Option Addr) (cdv ct : Value) (us : List Value), us.length = ps.length → bindArgs (PySem.W.fnOf x qual params body sc .none kV doc pm an cdv ct) ⟨us, []⟩ = pure (ps.zip us))
    (hb : ∀ (X : Cx) (E : XK), Cq G k E N sc X → X.fn = (fun _ => true) → PSs X body (sD G.K E m)) : Cal G (k + 1) x ps (callD N.length m) := ⟨⟨fd, fn_okD F S hb, F.bindsN h⟩, F.kp, gl⟩
theorem cal_K (F : FunD G.K x qual params body sc [] kws (He.ga G.K x) fd) (S : FnScope N ps sc) (gl : G.mg x = some (.ref (He.ga G.K x)))
    (h : ∀ (kV doc pm : Value) (an : Option Addr) (cdv ct : Value) (us : List Value), us.length = ps.length → bindArgs (PySem.W.fnOf x qual params body sc .none kV doc pm an cdv ct) ⟨us, []⟩ = pure (ps.zip us))
    (hb : ∀ (X : Cx) (E : XK), Cq G k E N sc X → X.fn = (fun _ => true) → PSs X body (sD G.K E m)) : Cal G (k + 1) x ps (callK N.length m) := ⟨⟨fd, fn_okK F S hb, F.bindsN h⟩, F.kp, gl⟩
end
end Ly
namespace Ly
open PySem PySem.Spec PyProof.Rows L2
def scriptD (ns : List Int) : D := .scr (ns.map .int)
theorem ints_isL {K : PySem.W.Frag} {L : Wd} {H : Hp} : ∀ ns : List Int, IsL K L H (ns.map .int) (ns.map V.int)
  | [] => .nil
  | n :: ns => .cons (.int n) (ints_isL ns)
def only (K : PySem.W.Frag) (a : Addr) (o : Obj) (ns : List Int) : Hp := fun b => if b = a ∧ K.lookup a = none then some (.frz o (.lst (ns.map V.int))) else none
theorem only_inv {K : PySem.W.Frag} {a b : Addr} {o : Obj} {ns : List Int} {u : HO} (h : only K a o ns b = some u) : b = a ∧ K.lookup a = none ∧ u = .frz o (.lst (ns.map V.int)) := by
  unfold only at h
  split at h
  · next z =>
    cases h
    exact ⟨z.1, z.2, rfl⟩
  · cases h
theorem only_none {K : PySem.W.Frag} {a b : Addr} {o : Obj} {ns : List Int} (h : ¬ (b = a ∧ K.lookup a = none)) : only K a o ns b = none := if_neg h
section
variable {P : Program} {w : World} {K : PySem.W.Frag} {mg mb : Str → Option Value} {k : Nat} {a : Addr} {x y : Str} {s : Shared} {vs : List Value} {ns : List Int} {f : MF}
theorem script_is {o : Obj} (ho : o = { cls := .type "list", data := .seq vs.toArray }) (KX : K.In s.heap) (ha : s.heap.get? a = some o) (hi : IntsAre vs ns) (hl : ns.length ≤ sizeLine) : Is K ⟨[], []⟩ (only K a o ns) (scriptD ns) (.ref a) := by
  cases q : K.lookup a with
  | none => exact .scr (.inr ⟨o, if_pos ⟨rfl, q⟩⟩) ⟨nofun, nofun⟩ (ints_isL ns)
  | some o' =>
    have e := (KX a o' q).symm.trans ha
    cases e
    subst ho
    refine .scrK ⟨_, vs.toArray, _, q, rfl, rfl, rfl, ?_, by simpa using vals_ints hi⟩ (ints_isL ns)
    rw [List.size_toArray, hi.length]
    exact hl
theorem law_end (nT : ∀ z ∈ lamDefs, tabK K z = none) (KX : K.In s.heap) (hns : s.heap.Ns mainGlobals mg) (hb : s.heap.Ns builtinsNs mb) (hbb : ∀ z : Str, z ≠ "__name__" → mb z = bootBuiltins z) (hlim : s.heap.NoLimit) (hg : s.gens = #[])
    (ha : s.heap.get? a = some { cls := .type "list", data := .seq vs.toArray }) (hi : IntsAre vs ns) (hl : ns.length ≤ sizeLine) (hr : Room k callerA)
    (F : ∀ base : Heap, K.In base → base.Ns mainGlobals mg → Cal ⟨P, w, K, mg, base, some []⟩ k x [y] f) (ok : ∃ M', f [scriptD ns] [] = .ok (.bl true) M') :
    codeAny (model P w) callerA (.call (.ref (He.ga K x)) ⟨[.ref a], []⟩) (fun r s' => r = .ok (.ret (.bool true)) ∧ OldK s.heap s'.heap ∧ s'.os = s.os ∧ AllBare s'.gens) s := by
  obtain ⟨o, ho⟩ : ∃ o : Obj, o = { cls := .type "list", data := .seq vs.toArray } := ⟨_, rfl⟩
  rw [← ho] at ha
  obtain ⟨H, hH⟩ : ∃ H, H = only K a o ns := ⟨_, rfl⟩
  have good : HOk P w H s.heap := fun b u z => by
    rw [hH] at z
    obtain ⟨rfl, _, rfl⟩ := only_inv z
    exact ⟨ha, by rw [List.length_map]; exact hl, vs, _, vals_ints hi, by rw [ha, ho]⟩
  have dictFree : ∀ {b : Addr} {m : Str → Option Value}, s.heap.Ns b m → (hidT s.heap H).Ns b m := fun {b m} ⟨ob, es, ep, e, d, r⟩ => by
    refine ⟨ob, es, ep, hidT_get e ?_, d, r⟩
    rw [hH]
    refine only_none fun z => ?_
    obtain ⟨rfl, _⟩ := z
    rw [ha] at e
    cases e
    rw [ho] at d
    cases (show Data.seq vs.toArray _ = Data.dict es ep from d)
  have written : K.In (hidT s.heap H) := fun b ob e => hidT_get (KX b ob e) (by
    rw [hH]
    refine only_none fun z => ?_
    obtain ⟨rfl, z⟩ := z
    rw [z] at e
    cases e)
  have ground : Mod K mg (hidT s.heap H) := ⟨written, dictFree hns, ⟨mb, dictFree hb, hbb⟩, let ⟨mc, h1, h2⟩ := hlim; ⟨mc, dictFree h1, h2⟩⟩
  have env0 : Env0 P w K mg (hidT s.heap H) callerA [] s H := ⟨rfl, ground, fun b ob e => of_hidT e, Nat.le_of_eq (hidT_size _ _), trivial, fun b z => (nomatch (show b ∈ ([] : List Addr) from z)), good, .of_eq hg⟩
  obtain ⟨fd, run, bind⟩ := (F _ written (dictFree hns)).ex
  obtain ⟨M', ok⟩ := ok
  have given := bind s [.ref a] KX rfl
  have want : spD K 1 f [.ref a] H (fun v _ => v = .bl true) fun _ _ _ => False := by
    refine ⟨[scriptD ns], ⟨[], []⟩, [], rfl, .cons (by rw [hH]; exact script_is ho KX ha hi hl) .nil, ⟨rfl, .nil, fun n b c e => (nomatch (show (none : Option Addr) = some b from e)), fun b z => (nomatch (show b ∈ ([] : List Addr) from z)), fun z hz P hP => by rw [nT z hz] at hP; cases hP⟩, ?_⟩
    rw [ok]
    intro L' H' v _ _ r
    cases r
    rfl
  refine codeAny_mono (run callerA [] s H ⟨[.ref a], []⟩ [.ref a] [.ref a] _ _ hr rfl env0 given (.cons rfl .nil) rfl want) fun r s' out => ?_
  match r, out with
  | .error e, out =>
    obtain ⟨_, _, _, _, _, _, _, _, _, _, _, _, no⟩ := out
    exact no.elim
  | .ok (.ret u), out =>
    obtain ⟨v, H', os, bare, un, good', rv, rfl⟩ := out
    obtain rfl : u = Value.bool true := rv
    refine ⟨rfl, OldK.of_keep fun b ob e => ?_, os, bare⟩
    by_cases z : b = a ∧ K.lookup a = none
    · obtain ⟨rfl, z⟩ := z
      rw [ha] at e
      cases e
      exact (good' b _ (un.frzs b o _ (by rw [hH]; exact if_pos ⟨rfl, z⟩))).1
    · exact un.keep b ob e (by rw [hH]; exact only_none z) (fun z => nomatch (show b ∈ ([] : List Addr) from z)) (fun z => nomatch (show b ∈ ([] : List Addr) from z))
end
theorem walk_data {l : PySem.W.OpenLaw} {n k : Nat} {q : Program} {loose : List Str} {XP : (Str → Option Value) → Heap → Prop} {YP : World → Heap → Prop} {d : DefRec} {x y : Str} {f : MF}
    (hn : l.most = some n) (hn2 : n ≤ sizeLine) (hdf : d.params.defaults = []) (hr : Room k callerA)
    (F : ∀ (w : World) (mg : Str → Option Value) (fa : Addr) (h : Heap), YP w h → h.Ns mainGlobals mg → mg d.name = some (.ref fa) →
      ∃ K : PySem.W.Frag, K.In h ∧ fa = He.ga K x ∧ (∀ z ∈ lamDefs, tabK K z = none) ∧ ∀ base : Heap, K.In base → base.Ns mainGlobals mg → Cal ⟨l.prog, w, K, mg, base, some []⟩ k x [y] f)
    (ok : ∀ ns : List Int, ns.length ≤ n → (∀ z ∈ ns, Builtin.Int.intBits z ≤ 1048576) → ∃ M', f [scriptD ns] [] = .ok (.bl true) M') :
    PySem.W.WalkO q loose XP YP l.row.toRowW d [] (fun f vs => PySem.call f vs) := by
  refine Att.attach_callB hn hdf fun w s₀ s₁ mg mb fa o pm cd doc a vs ns G Y ho hd hcd hmg hobj hints hlen hbits hg => ?_
  obtain ⟨K, KX, rfl, nT, C⟩ := F w mg fa _ Y G.T.g hmg
  exact law_end nT KX G.T.g G.T.b G.T.builtins G.T.nolimit hg hobj hints (Nat.le_trans hlen hn2) hr C (ok ns hlen hbits)
end Ly
namespace Ly
open PySem PySem.Spec PyProof.Rows L2
def Go {α : Type} (r : Res α) (Q : α → Mem → Prop) : Prop := match r with
  | .ok a M => Q a M
  | _ => False
def GoS (r : ResS) (Q : Env → Mem → Prop) (R : D → Mem → Prop) : Prop := match r with
  | .nx e M => Q e M
  | .rt d M => R d M
  | _ => False
theorem Go.ok {α : Type} {r : Res α} {Q : α → Mem → Prop} (h : Go r Q) : ∃ a M, r = .ok a M ∧ Q a M := by
  cases r with
  | ok a M => exact ⟨a, M, rfl, h⟩
  | exc x M => exact h.elim
  | bad => exact h.elim
theorem Go.of {α : Type} {r : Res α} {Q : α → Mem → Prop} {a : α} {M : Mem} (e : r = .ok a M) (h : Q a M) : Go r Q := by
  rw [e]
  exact h
theorem Go.imp {α : Type} {r : Res α} {Q Q' : α → Mem → Prop} (h : Go r Q) (i : ∀ a M, Q a M → Q' a M) : Go r Q' := by
  cases r with
  | ok a M => exact i a M h
  | exc x M => exact h
  | bad => exact h
theorem GoS.imp {r : ResS} {Q Q' : Env → Mem → Prop} {R R' : D → Mem → Prop} (h : GoS r Q R) (i : ∀ a M, Q a M → Q' a M) (j : ∀ a M, R a M → R' a M) : GoS r Q' R' := by
  cases r with
  | nx a M => exact i a M h
  | rt a M => exact j a M h
  | _ => exact h
section
variable {α β : Type} {Q : D → Mem → Prop} {QB : Bool → Mem → Prop} {QL : List D → Mem → Prop} {S : Env → Mem → Prop} {R : D → Mem → Prop} {env : Env} {M : Mem} {a b o : ME} {t u : MT} {r : MA} {s s' : MS} {g : GD}
theorem go_ok {Q : α → Mem → Prop} {x : α} : Go (.ok x M) Q = Q x M := id rfl
theorem go_bind {Q : β → Mem → Prop} {r : Res α} {f : α → Mem → Res β} : Go (r.bind f) Q = Go r fun x M1 => Go (f x M1) Q := by
  cases r <;> rfl
theorem go_bindS {r : Res α} {f : α → Mem → ResS} : GoS (r.bindS f) S R = Go r fun x M1 => GoS (f x M1) S R := by
  cases r <;> rfl
theorem go_ite {Q : α → Mem → Prop} {c : Prop} [Decidable c] {x y : Res α} : Go (if c then x else y) Q = if c then Go x Q else Go y Q := by
  split <;> rfl
theorem go_nx : GoS (.nx env M) S R = S env M := id rfl
theorem go_rt {d : D} : GoS (.rt d M) S R = R d M := id rfl
theorem go_var {i : Nat} : Go (mVar i env M) Q = match env[i]? with
    | some (some d) => Q d M
    | _ => False := by
  unfold mVar
  generalize env[i]? = x
  cases x with
  | none => rfl
  | some y => cases y <;> rfl
theorem go_c {d : D} : Go (mC d env M) Q = Q d M := id rfl
theorem go_bin {op : D → D → Mem → Res D} : Go (mBin op a b env M) Q = Go (a env M) fun d M1 => Go (b env M1) fun e M2 => Go (op d e M2) Q := by
  unfold mBin
  rw [go_bind]
  congr 1
  funext d M1
  rw [go_bind]
theorem go_un {op : D → Mem → Res D} : Go (mUn op a env M) Q = Go (a env M) fun d M1 => Go (op d M1) Q := go_bind
theorem go_asB {x : Res D} : Go (asB x) QB = Go x fun d M1 => ∃ c, d = .bl c ∧ QB c M1 := by
  unfold asB
  rw [go_bind]
  congr 1
  funext d M1
  cases d <;> simp [Go]
theorem go_test : Go (mTest a env M) QB = Go (a env M) fun d M1 => ∃ c, d = .bl c ∧ QB c M1 := go_asB
theorem go_andT : Go (mAndT t u env M) QB = Go (t env M) fun c M1 => if c then Go (u env M1) QB else QB false M1 := by
  unfold mAndT
  rw [go_bind]
  congr 1
  funext c M1
  cases c <;> rfl
theorem go_orT : Go (mOrT t u env M) QB = Go (t env M) fun c M1 => if c then QB true M1 else Go (u env M1) QB := by
  unfold mOrT
  rw [go_bind]
  congr 1
  funext c M1
  cases c <;> rfl
theorem go_notT : Go (mNotT t env M) QB = Go (t env M) fun c M1 => QB (!c) M1 := go_bind
theorem go_yes : Go (mYes env M) QB = QB true M := id rfl
theorem go_andV : Go (mAndV a b env M) Q = Go (a env M) fun d M1 => ∃ c, d = .bl c ∧ if c then Go (b env M1) Q else Q (.bl false) M1 := by
  unfold mAndV
  rw [go_bind]
  congr 1
  funext d M1
  cases d <;> simp [Go]
  case bl c => cases c <;> simp
theorem go_if : Go (mIf t a b env M) Q = Go (t env M) fun c M1 => if c then Go (a env M1) Q else Go (b env M1) Q := by
  unfold mIf
  rw [go_bind]
  congr 1
  funext c M1
  cases c <;> rfl
theorem go_nil : Go (mNil env M) QL = QL [] M := id rfl
theorem go_cons : Go (mCons a r env M) QL = Go (a env M) fun d M1 => Go (r env M1) fun ds M2 => QL (d :: ds) M2 := by
  unfold mCons
  rw [go_bind]
  congr 1
  funext d M1
  rw [go_bind]
  rfl
theorem go_tup : Go (mTup r env M) Q = Go (r env M) fun ds M1 => ds.length ≤ 100000 ∧ Q (.tup ds) M1 := by
  unfold mTup
  rw [go_bind]
  congr 1
  funext d M1
  rw [go_ite]
  simp [szOk, Go]
theorem go_lst : Go (mLst r env M) Q = Go (r env M) fun ds M1 => ds.length ≤ 100000 ∧ Q (.lst ds) M1 := by
  unfold mLst
  rw [go_bind]
  congr 1
  funext d M1
  rw [go_ite]
  simp [szOk, Go]
theorem go_lstC : Go (mLstC r env M) Q = Go (r env M) fun ds M1 => ds.length ≤ 100000 ∧ Q (.ref M1.length) (M1 ++ [.lst ds]) := by
  unfold mLstC
  rw [go_bind]
  congr 1
  funext d M1
  rw [go_ite]
  simp [szOk, Go]
theorem go_cb {f : MF} : Go (mCB f r env M) Q = Go (r env M) fun ds M1 => Go (f ds M1) Q := go_bind
theorem go_call {n : Nat} {f : MF} : Go (mCall n f r env M) Q = Go (r env M) fun ds M1 => ds.length = n ∧ Go (f ds M1) Q := by
  unfold mCall
  rw [go_bind]
  congr 1
  funext d M1
  rw [go_ite]
  simp [Go]
theorem go_meth {ty : D → Mem → Bool} {f : MM} : Go (mMeth ty f o r env M) Q = Go (o env M) fun d M1 => ty d M1 = true ∧ Go (r env M1) fun ds M2 => Go (f d ds M2) Q := by
  unfold mMeth
  rw [go_bind]
  congr 1
  funext d M1
  rw [go_ite, go_bind]
  simp [Go]
theorem go_noPart {Q : Option Int → Mem → Prop} : Go (mNoPart env M) Q = Q none M := id rfl
theorem go_part {Q : Option Int → Mem → Prop} : Go (mPart a env M) Q = Go (a env M) fun d M1 => ∃ i, d = .int i ∧ Q (some i) M1 := by
  unfold mPart
  rw [go_bind]
  congr 1
  funext d M1
  cases d <;> simp [Go]
theorem go_sl {lo hi : MO} : Go (mSl a lo hi env M) Q = Go (a env M) fun d M1 => Go (lo env M1) fun l M2 => Go (hi env M2) fun h M3 => Go (opSl d l h M3) Q := by
  unfold mSl
  rw [go_bind]
  congr 1
  funext d M1
  rw [go_bind]
  congr 1
  funext l M2
  rw [go_bind]
theorem go_get : Go (mGet o a b env M) Q = Go (o env M) fun d M1 => isDic d M1 = true ∧ Go (a env M1) fun y M2 => Go (b env M2) fun z M3 => Go (opGet d y z M3) Q := by
  unfold mGet
  rw [go_bind]
  congr 1
  funext d M1
  rw [go_ite, go_bind]
  simp only [go_bind]
  simp [Go]
theorem go_seq : GoS (mSeq s s' env M) S R = GoS (s env M) (fun e1 M1 => GoS (s' e1 M1) S R) R := by
  unfold mSeq
  cases s env M <;> rfl
theorem go_next : GoS (mNext env M) S R = S env M := id rfl
theorem go_drop : GoS (mDrop a env M) S R = Go (a env M) fun _ M1 => S env M1 := go_bindS
theorem go_ret : GoS (mRet a env M) S R = Go (a env M) R := go_bindS
theorem go_retN : GoS (mRetN env M) S R = R .non M := id rfl
theorem go_ifS : GoS (mIfS t s s' env M) S R = Go (t env M) fun c M1 => if c then GoS (s env M1) S R else GoS (s' env M1) S R := by
  unfold mIfS
  rw [go_bindS]
  congr 1
  funext c M1
  cases c <;> rfl
theorem go_set {i : Nat} : GoS (mAsg a (gN i) env M) S R = Go (a env M) fun d M1 => S (env.set i (some d)) M1 := go_bindS
theorem go_asg : GoS (mAsg a g env M) S R = Go (a env M) fun d M1 => ∃ e1, g.f d env = some e1 ∧ S e1 M1 := by
  unfold mAsg
  rw [go_bindS]
  congr 1
  funext d M1
  cases g.f d env <;> simp [GoS]
theorem go_setItem : GoS (mSetItem a b o env M) S R = Go (a env M) fun v M1 => Go (b env M1) fun d M2 => Go (o env M2) fun i M3 => ∃ M4, setM M3 d i v = some M4 ∧ S env M4 := by
  unfold mSetItem
  rw [go_bindS]
  congr 1
  funext v M1
  rw [go_bindS]
  congr 1
  funext d M2
  rw [go_bindS]
  congr 1
  funext i M3
  cases setM M3 d i v <;> simp [GoS]
theorem go_for {mi : MI} : GoS (mFor mi g s env M) S R = Go (mi env M) fun t M1 => GoS (loopS g s t.chk t.items env M1) S R := go_bindS
theorem go_lc {mi : MI} {el : ME} {vs : List Nat} : Go (mLc mi g t el vs env M) Q = Go (mi env M) fun it M1 => Go (compL g t el it.chk (wipeD env vs) it.items [] M1) fun ds M2 => Q (.lst ds) M2 := by
  unfold mLc
  rw [go_bind]
  congr 1
  funext it M1
  rw [go_bind]
  rfl
theorem go_dc {kp : Bool} {mi : MI} {ek el : ME} {vs : List Nat} : Go (mDc kp mi g t ek el vs env M) Q = Go (mi env M) fun it M1 => Go (compD g t ek el it.chk (wipeD env vs) it.items [] M1) fun ds M2 => Go (bdD kp ds M2) Q := by
  unfold mDc
  rw [go_bind]
  congr 1
  funext it M1
  rw [go_bind]
theorem go_iter {Q : Itm → Mem → Prop} : Go (mIter a env M) Q = Go (a env M) fun d M1 => ∃ t, itemsOf d M1 = some t ∧ Q t M1 := by
  unfold mIter
  rw [go_bind]
  congr 1
  funext d M1
  cases itemsOf d M1 <;> simp [Go]
theorem go_enum {Q : Itm → Mem → Prop} : Go (mEnum a env M) Q = Go (a env M) fun d M1 => ∃ t, enumOf d M1 = some t ∧ Q t M1 := by
  unfold mEnum
  rw [go_bind]
  congr 1
  funext d M1
  cases enumOf d M1 <;> simp [Go]
theorem go_rng {Q : Itm → Mem → Prop} {f : List D → Mem → Res Itm} : Go (mRng f r env M) Q = Go (r env M) fun ds M1 => Go (f ds M1) Q := go_bind
theorem go_iteC {Q : α → Mem → Prop} {c : Prop} {i : Decidable c} {x : Res α} : Go (@ite _ c i x .bad) Q = (c ∧ Go x Q) := by
  by_cases h : c
  · rw [if_pos h]
    exact propext ⟨fun z => ⟨h, z⟩, fun z => z.2⟩
  · rw [if_neg h]
    exact propext ⟨fun z => z.elim, fun z => h z.1⟩
theorem go_rng1 {Q : Itm → Mem → Prop} {j : Int} : Go (rng1 [.int j] M) Q = (rngOk j ∧ Q ⟨(List.range j.toNat).map fun i => .int (0 + (i : Nat)), fun _ => True⟩ M) := go_iteC
theorem go_rng2 {Q : Itm → Mem → Prop} {i j : Int} : Go (rng2 [.int i, .int j] M) Q = ((rngOk i ∧ rngOk j) ∧ Q ⟨(List.range (j - i).toNat).map fun n => .int (i + (n : Nat)), fun _ => True⟩ M) := go_iteC
theorem go_rng3 {Q : Itm → Mem → Prop} {i j c : Int} : Go (rng3 [.int i, .int j, .int c] M) Q = ((rngOk i ∧ rngOk j ∧ c = -1) ∧ Q ⟨(List.range (i - j).toNat).map fun n => .int (i + (n : Nat) * -1), fun _ => True⟩ M) := go_iteC
theorem go_disp {kp : Bool} {ms : List (ME × ME)} : Go (mDisp kp ms env M) Q = Go (mPairs ms env M) fun ps M1 => ∃ ks, keysOf ps = some ks ∧ ks.length ≤ 15 ∧ Go (bdD kp (mergeD [] ks) M1) Q := by
  unfold mDisp
  rw [go_bind]
  congr 1
  funext ps M1
  cases keysOf ps with
  | none => simp [Go]
  | some ks =>
    simp only [go_ite]
    simp [Go]
theorem go_pnil {Q : List (D × D) → Mem → Prop} : Go (mPairs [] env M) Q = Q [] M := id rfl
theorem go_pcons {Q : List (D × D) → Mem → Prop} {ms : List (ME × ME)} : Go (mPairs ((a, b) :: ms) env M) Q = Go (a env M) fun x M1 => Go (b env M1) fun y M2 => Go (mPairs ms env M2) fun ps M3 => Q ((x, y) :: ps) M3 := by
  rw [show mPairs ((a, b) :: ms) env M = (a env M).bind fun x M1 => (b env M1).bind fun y M2 => (mPairs ms env M2).bind fun ps M3 => .ok ((x, y) :: ps) M3 from rfl, go_bind]
  congr 1
  funext x M1
  rw [go_bind]
  congr 1
  funext y M2
  rw [go_bind]
  rfl
theorem go_bdT {kvs : List (Key × D)} : Go (bdD true kvs M) Q = Q (.ref M.length) (M ++ [.dic kvs]) := id rfl
theorem go_bdF {kvs : List (Key × D)} : Go (bdD false kvs M) Q = Q (.dic kvs) M := id rfl
theorem go_callD {n : Nat} {ds : List D} : Go (callD n s ds M) Q = GoS (s (startD n ds) M) (fun _ M' => Go (finish M .non M') Q) fun d M' => Go (finish M d M') Q := by
  unfold callD
  cases s (startD n ds) M <;> try rfl
  case exc x M' =>
    show Go (finishX M x M') Q = False
    unfold finishX
    rw [go_iteC]
    refine propext ⟨fun z => ?_, fun z => z.elim⟩
    have z2 := z.2
    split at z2 <;> exact z2
theorem go_callK {n : Nat} {ds : List D} : Go (callK n s ds M) Q = GoS (s (startD n ds) M) (fun _ M' => Q .non M') Q := by
  unfold callK
  cases s (startD n ds) M <;> rfl
theorem go_finish {d d' : D} {M' : Mem} (h : Laid M M') (e : frzD M.length M' 20 d = some d') (q : Q d' (M'.take M.length)) : Go (finish M d M') Q := by
  unfold finish
  rw [if_pos h, e]
  exact q
theorem go_loop {chk : Mem → Prop} (I : List D → Env → Mem → Prop) (step : ∀ d ds env M, I (d :: ds) env M → chk M ∧ ∃ e1, g.f d env = some e1 ∧ GoS (s e1 M) (fun e2 M2 => I ds e2 M2) R) (done : ∀ env M, I [] env M → chk M ∧ S env M) :
    ∀ (ds : List D) (env : Env) (M : Mem), I ds env M → GoS (loopS g s chk ds env M) S R
  | [], env, M, h => by
    obtain ⟨h1, h2⟩ := done env M h
    unfold loopS
    rw [if_pos h1]
    exact h2
  | d :: ds, env, M, h => by
    obtain ⟨h1, e1, h2, h3⟩ := step d ds env M h
    unfold loopS
    rw [if_pos h1, h2]
    show GoS (ResS.loop (s e1 M) fun e1 M1 => loopS g s chk ds e1 M1) S R
    cases q : s e1 M with
    | nx e M =>
      rw [q] at h3
      exact go_loop I step done ds e M h3
    | rt d M =>
      rw [q] at h3
      exact h3
    | _ =>
      rw [q] at h3
      exact h3.elim
theorem go_comp {chk : Mem → Prop} {el : ME} {Q : List D → Mem → Prop} (I : List D → List D → Mem → Prop) (step : ∀ d ds acc M, I (d :: ds) acc M → chk M ∧ ∃ e1, g.f d env = some e1 ∧ Go (t e1 M) fun c M1 => if c then Go (el e1 M1) fun y M2 => acc.length + 1 ≤ 100000 ∧ I ds (acc ++ [y]) M2 else I ds acc M1)
    (done : ∀ acc M, I [] acc M → chk M ∧ Q acc M) : ∀ (ds acc : List D) (M : Mem), I ds acc M → Go (compL g t el chk env ds acc M) Q
  | [], acc, M, h => by
    obtain ⟨h1, h2⟩ := done acc M h
    unfold compL
    rw [if_pos h1]
    exact h2
  | d :: ds, acc, M, h => by
    obtain ⟨h1, e1, h2, h3⟩ := step d ds acc M h
    unfold compL
    rw [if_pos h1, h2]
    obtain ⟨c, M1, q, h3⟩ := h3.ok
    simp only [q, noX, Res.bind]
    cases c with
    | false => exact go_comp I step done ds acc M1 h3
    | true =>
      rw [if_pos rfl] at h3 ⊢
      obtain ⟨y, M2, q2, h4, h5⟩ := h3.ok
      simp only [q2, noX, Res.bind]
      rw [if_pos (show szOk (acc.length + 1) = true from decide_eq_true h4)]
      exact go_comp I step done ds (acc ++ [y]) M2 h5
end
end Ly
namespace Ly
open PySem PySem.Spec PyProof.Rows L2
section
variable {α β : Type} {Q : D → Mem → Prop} {M : Mem} {i j : Int} {x y : Str} {ds es : List D}
theorem go_addI : Go (opAdd (.int i) (.int j) M) Q = Q (.int (i + j)) M := id rfl
theorem go_addS : Go (opAdd (.str x) (.str y) M) Q = (szOk (x.length + y.length) = true ∧ Q (.str (x ++ y)) M) := go_iteC
theorem go_addT : Go (opAdd (.tup ds) (.tup es) M) Q = (szOk (ds.length + es.length) = true ∧ Q (.tup (ds ++ es)) M) := go_iteC
theorem go_addL : Go (opAdd (.lst ds) (.lst es) M) Q = (szOk (ds.length + es.length) = true ∧ Q (.lst (ds ++ es)) M) := go_iteC
theorem go_subI : Go (opSub (.int i) (.int j) M) Q = Q (.int (i - j)) M := id rfl
theorem go_mulI : Go (opMul (.int i) (.int j) M) Q = (CMulW i j ∧ Q (.int (i * j)) M) := go_iteC
theorem go_mulL : Go (opMul (.lst ds) (.int j) M) Q = ((0 ≤ j ∧ j ≤ 100000 ∧ szOk (ds.length * j.toNat) = true) ∧ Q (.lst (List.replicate j.toNat ds).flatten) M) := go_iteC
theorem go_modI : Go (opMod (.int i) (.int j) M) Q = (j ≠ 0 ∧ Q (.int (i.fmod j)) M) := go_iteC
theorem go_fdivI : Go (opFdiv (.int i) (.int j) M) Q = (CDivN i j ∧ Q (.int (i.fdiv j)) M) := go_iteC
theorem go_powI : Go (opPow (.int i) (.int j) M) Q = (CPow i j ∧ Q (.int (i ^ j.toNat)) M) := go_iteC
theorem go_ltI : Go (opLt (.int i) (.int j) M) Q = Q (.bl (decide (i < j))) M := id rfl
theorem go_leI : Go (opLe (.int i) (.int j) M) Q = Q (.bl (decide (i ≤ j))) M := id rfl
theorem go_gtI : Go (opGt (.int i) (.int j) M) Q = Q (.bl (decide (j < i))) M := id rfl
theorem go_geI : Go (opGe (.int i) (.int j) M) Q = Q (.bl (decide (j ≤ i))) M := id rfl
theorem go_eqI : Go (opEq (.int i) (.int j) M) Q = Q (.bl (decide (i = j))) M := id rfl
theorem go_eqS : Go (opEq (.str x) (.str y) M) Q = Q (.bl (decide (x = y))) M := id rfl
theorem go_neI : Go (opNe (.int i) (.int j) M) Q = Q (.bl (!decide (i = j))) M := id rfl
theorem go_neS : Go (opNe (.str x) (.str y) M) Q = Q (.bl (!decide (x = y))) M := id rfl
theorem go_ixL {n : Nat} (h : M[n]? = some (.lst ds)) : Go (opIx (.ref n) (.int i) M) Q = ∃ v, atI ds i = some v ∧ Q v M := by
  have e : opIx (.ref n) (.int i) M = (match atI ds i with
    | some v => .ok v M
    | none => .bad) := by
    simp only [opIx, dicOf, seqOf, lstOf, h] <;> rfl
  rw [e]
  cases atI ds i <;> simp [Go]
theorem go_ixF : Go (opIx (.lst ds) (.int i) M) Q = ∃ v, atI ds i = some v ∧ Q v M := by
  have e : opIx (.lst ds) (.int i) M = (match atI ds i with
    | some v => .ok v M
    | none => .bad) := rfl
  rw [e]
  cases atI ds i <;> simp [Go]
theorem go_ixT : Go (opIx (.tup ds) (.int i) M) Q = ∃ v, atI ds i = some v ∧ Q v M := by
  have e : opIx (.tup ds) (.int i) M = (match atI ds i with
    | some v => .ok v M
    | none => .bad) := rfl
  rw [e]
  cases atI ds i <;> simp [Go]
theorem go_ixS : Go (opIx (.str x) (.int i) M) Q = (szOk x.length = true ∧ ∃ c, atI x.cps.toList i = some c ∧ Q (.str ⟨#[c]⟩) M) := by
  have e : opIx (.str x) (.int i) M = if szOk x.length then (match atI x.cps.toList i with
    | some c => .ok (.str ⟨#[c]⟩) M
    | none => .bad) else .bad := rfl
  rw [e, go_iteC]
  cases atI x.cps.toList i <;> simp [Go]
theorem go_ixD {kvs : List (Key × D)} {e : D} : Go (opIx (.dic kvs) e M) Q = ∃ v, (keyOf e).bind (valD kvs) = some v ∧ Q v M := by
  have q : opIx (.dic kvs) e M = (match (keyOf e).bind (valD kvs) with
    | some v => .ok v M
    | none => .bad) := rfl
  rw [q]
  cases (keyOf e).bind (valD kvs) <;> simp [Go]
theorem atI_of {α : Type} {xs : List α} {i : Int} (h0 : 0 ≤ i) (h : i < xs.length) : ∃ a, xs[i.toNat]? = some a ∧ atI xs i = some a := by
  have hl : i.toNat < xs.length := by omega
  refine ⟨xs[i.toNat], List.getElem?_eq_getElem hl, ?_⟩
  unfold atI ixN
  rw [if_pos h0, if_pos h]
  exact List.getElem?_eq_getElem hl
theorem go_slT {lo hi : Option Int} : Go (opSl (.tup ds) lo hi M) Q = Q (.tup (cutD ds lo hi)) M := id rfl
theorem go_slF {lo hi : Option Int} : Go (opSl (.lst ds) lo hi M) Q = Q (.lst (cutD ds lo hi)) M := id rfl
theorem go_slR {lo hi : Option Int} : Go (opSl (.scr ds) lo hi M) Q = Q (.lst (cutD ds lo hi)) M := id rfl
theorem go_slS {lo hi : Option Int} : Go (opSl (.str x) lo hi M) Q = (szOk x.length = true ∧ Q (.str (cutS x lo hi)) M) := go_iteC
theorem go_revF : Go (opRev (.lst ds) M) Q = Q (.lst ds.reverse) M := id rfl
theorem go_revCF : Go (opRevC (.lst ds) M) Q = Q (.ref M.length) (M ++ [.lst ds.reverse]) := id rfl
theorem go_append {n : Nat} {d : D} (h : M[n]? = some (.lst ds)) : Go (fAppend (.ref n) [d] M) Q = (ds.length + 1 ≤ 100000 ∧ Q .non (M.set n (.lst (ds ++ [d])))) := by
  have e : fAppend (.ref n) [d] M = if szOk (ds.length + 1) then .ok .non (M.set n (.lst (ds ++ [d]))) else .bad := by
    simp only [fAppend, h]
  rw [e, go_iteC]
  simp [szOk, Go]
theorem go_pop {n : Nat} (h : M[n]? = some (.lst ds)) : Go (fPop (.ref n) [] M) Q = ∃ y, ds[ds.length - 1]? = some y ∧ Q y (M.set n (.lst ds.dropLast)) := by
  have e : fPop (.ref n) [] M = (match ds[ds.length - 1]? with
      | some y => .ok y (M.set n (.lst ds.dropLast))
      | none => .bad) := by
    simp only [fPop, h] <;> rfl
  rw [e]
  cases ds[ds.length - 1]? <;> simp [Go]
theorem isLst_ref {n : Nat} (h : M[n]? = some (.lst ds)) : isLst (.ref n) M = true := by
  simp only [isLst, lstOf, h]
  rfl
end
end Ly
namespace Ly
open PySem PySem.Spec PyProof.Rows L2
def dk (xs : List Int) (s c : Int) (T : Mem) : Mem := .lst (xs.map .int) :: .lst [.ref 0, .int s, .int c] :: T
def DkIs (b : Nat) (T M : Mem) : Prop := ∃ xs s c, M = dk xs s c T ∧ xs.length ≤ 99 ∧ 0 ≤ s ∧ s < 4294967296 ∧ 0 ≤ c ∧ c ≤ b
theorem DkIs.mono {b b' : Nat} {T M : Mem} (h : DkIs b T M) (hb : b ≤ b') : DkIs b' T M := by
  obtain ⟨xs, s, c, e, h0, h1, h2, h3, h4⟩ := h
  exact ⟨xs, s, c, e, h0, h1, h2, h3, by omega⟩
theorem DkIs.push {b : Nat} {T M : Mem} (h : DkIs b T M) (c : Cell) : DkIs b (T ++ [c]) (M ++ [c]) := by
  obtain ⟨xs, s, k, rfl, h⟩ := h
  exact ⟨xs, s, k, rfl, h⟩
theorem DkIs.len {b : Nat} {T M : Mem} (h : DkIs b T M) : M.length = T.length + 2 := by
  obtain ⟨xs, s, k, rfl, h⟩ := h
  rfl
theorem DkIs.get {b : Nat} {T M : Mem} (h : DkIs b T M) (n : Nat) : M[n + 2]? = T[n]? := by
  obtain ⟨xs, s, k, rfl, h⟩ := h
  rfl
theorem DkIs.set {b : Nat} {T M : Mem} (h : DkIs b T M) (n : Nat) (c : Cell) : DkIs b (T.set n c) (M.set (n + 2) c) := by
  obtain ⟨xs, s, k, rfl, h⟩ := h
  exact ⟨xs, s, k, rfl, h⟩
theorem low_ints (k : Nat) : ∀ xs : List Int, lowL k (xs.map .int) = true
  | [] => rfl
  | x :: xs => by
    show (true && lowL k (xs.map .int)) = true
    rw [low_ints k xs]
    rfl
theorem DkIs.laid {b b' : Nat} {T N M M' : Mem} (h : DkIs b T M) (h' : DkIs b' (T ++ N) M') : Laid M M' ∧ DkIs b' T (M'.take M.length) := by
  obtain ⟨xs, s, k, rfl, _⟩ := h
  obtain ⟨xs', s', k', rfl, h⟩ := h'
  refine ⟨fun i hi => ?_, xs', s', k', ?_, h⟩
  · match i with
    | 0 => exact .inr ⟨_, rfl, low_ints _ _⟩
    | 1 => exact .inr ⟨_, rfl, by show (decide (0 < T.length + 1 + 1) && _) = true; rw [decide_eq_true (by omega)]; rfl⟩
    | i + 2 =>
      refine .inl ?_
      show (T ++ N)[i]? = T[i]?
      exact List.getElem?_append_left (by
        have : i + 2 < T.length + 2 := hi
        omega)
  · show _ :: _ :: (T ++ N).take T.length = _
    rw [List.take_left]
    rfl
theorem go_fin_dk {b b' : Nat} {T N M M' : Mem} {d d' : D} {Q : D → Mem → Prop} (h : DkIs b T M) (h' : DkIs b' (T ++ N) M') (e : frzD M.length M' 20 d = some d') (q : ∀ M2, DkIs b' T M2 → Q d' M2) : Go (finish M d M') Q :=
  go_finish (h.laid h').1 e (q _ (h.laid h').2)
theorem go_fin_dk0 {b b' : Nat} {T M M' : Mem} {d d' : D} {Q : D → Mem → Prop} (h : DkIs b T M) (h' : DkIs b' T M') (e : frzD M.length M' 20 d = some d') (q : ∀ M2, DkIs b' T M2 → Q d' M2) : Go (finish M d M') Q :=
  go_fin_dk (N := []) h (by rw [List.append_nil]; exact h') e q
theorem laid_app (M N : Mem) : Laid M (M ++ N) := fun i hi => .inl (List.getElem?_append_left hi)
theorem go_fin_app {M N : Mem} {d d' : D} {Q : D → Mem → Prop} (e : frzD M.length (M ++ N) 20 d = some d') (q : Q d' M) : Go (finish M d (M ++ N)) Q :=
  go_finish (laid_app M N) e (by rw [List.take_left]; exact q)
theorem go_fin_same {M : Mem} {d d' : D} {Q : D → Mem → Prop} (e : frzD M.length M 20 d = some d') (q : Q d' M) : Go (finish M d M) Q :=
  go_finish (fun i hi => .inl rfl) e (by rw [List.take_length]; exact q)
theorem frz_low {k n : Nat} {M : Mem} {d : D} (h : d.low k = true) : frzD k M (n + 1) d = some d := by
  unfold frzD
  rw [if_pos h]
theorem cmulW {i j : Int} (hi : i.natAbs < 2 ^ 200) (hj : j.natAbs < 2 ^ 200) : CMulW i j := by
  have h1 : i.natAbs.log2 ≤ 200 := by
    by_cases z : i.natAbs = 0
    · rw [z]
      decide
    · exact Nat.le_of_lt (Nat.log2_lt z |>.mpr hi)
  have h2 : j.natAbs.log2 ≤ 200 := by
    by_cases z : j.natAbs = 0
    · rw [z]
      decide
    · exact Nat.le_of_lt (Nat.log2_lt z |>.mpr hj)
  unfold CMulW
  omega
section
variable {M : Mem} {Q : D → Mem → Prop} {ds : List D} {x : Str} {i j : Int} {b : Bool} {n : Nat}
theorem go_listF : Go (fList [.lst ds] M) Q = Q (.lst ds) M := id rfl
theorem go_listT : Go (fList [.tup ds] M) Q = Q (.lst ds) M := id rfl
theorem go_tupleF : Go (fTuple [.lst ds] M) Q = Q (.tup ds) M := id rfl
theorem go_tupleT : Go (fTuple [.tup ds] M) Q = Q (.tup ds) M := id rfl
theorem go_lenF : Go (fLen [.lst ds] M) Q = Q (.int (ds.length : Nat)) M := id rfl
theorem go_lenT : Go (fLen [.tup ds] M) Q = Q (.int (ds.length : Nat)) M := id rfl
theorem go_lenS : Go (fLen [.str x] M) Q = (szOk x.length = true ∧ Q (.int (x.length : Nat)) M) := go_iteC
theorem go_isiS : Go (fIsi [.str x, .ty "str"] M) Q = Q (.bl true) M := id rfl
theorem go_isiI : Go (fIsi [.int i, .ty "str"] M) Q = Q (.bl false) M := id rfl
theorem go_intI : Go (fInt1 [.int i] M) Q = Q (.int i) M := id rfl
theorem go_intB : Go (fInt1 [.bl b] M) Q = Q (.int (if b then 1 else 0)) M := id rfl
theorem go_maxI : Go (fMax2 [.int i, .int j] M) Q = Q (.int (if j > i then j else i)) M := id rfl
theorem it_lst : itemsOf (.lst ds) M = some ⟨ds, fun _ => True⟩ := id rfl
theorem it_tupD : itemsOf (.tup ds) M = some ⟨ds, fun _ => True⟩ := id rfl
theorem it_strD : itemsOf (.str x) M = some ⟨x.cps.toList.map fun c => .str ⟨#[c]⟩, fun _ => True⟩ := id rfl
theorem en_lst : enumOf (.lst ds) M = some ⟨numbered ds, fun _ => True⟩ := id rfl
theorem en_tup : enumOf (.tup ds) M = some ⟨numbered ds, fun _ => True⟩ := id rfl
theorem fr_gN {d : D} {env : Env} {n : Nat} : (gN n).f d env = some (env.set n (some d)) := id rfl
theorem rngOk_of {i : Int} (h : -1000000 ≤ i) (h2 : i ≤ 1000000) : rngOk i := by
  unfold rngOk
  omega
end
theorem set_last (M : Mem) (c c' : Cell) : (M ++ [c]).set M.length c' = M ++ [c'] := by simp
theorem pdAll_ints : ∀ xs : List Int, pdAll (xs.map .int) = some (xs.map .int)
  | [] => rfl
  | x :: xs => by
    show ((pdAll (xs.map .int)).map fun ps => PyData.int x :: ps) = _
    rw [pdAll_ints xs]
    rfl
theorem canLay_ints : ∀ xs : List Int, PyData.canLayAll0 (xs.map .int) = true
  | [] => rfl
  | x :: xs => by
    show (true && PyData.canLayAll0 (xs.map .int)) = true
    rw [canLay_ints xs]
    rfl
theorem depth_ints : ∀ xs : List Int, PyData.depthAll (xs.map .int) = 0
  | [] => rfl
  | x :: xs => by
    show max 0 (PyData.depthAll (xs.map .int)) = 0
    rw [depth_ints xs]
    rfl
theorem go_neE {M : Mem} {n : Nat} {xs : List Int} {Q : D → Mem → Prop} (h : M[n]? = some (.lst (xs.map .int))) : Go (opNe (.ref n) (.lst []) M) Q = Q (.bl (!xs.isEmpty)) M := by
  have e1 : pdM M (.ref n) = some (.list (xs.map .int)) := by
    simp only [pdM, h, pdAll_ints]
    rfl
  have e2 : pdM M (.lst []) = some (.list []) := rfl
  have e3 : eqM M (.ref n) (.lst []) = some xs.isEmpty := by
    have s1 : SeqAt.shaped (.list (xs.map .int)) = true := by
      show (PyData.canLayAll0 (xs.map .int) && decide (PyData.depthAll (xs.map .int) + 1 ≤ 64)) = true
      rw [canLay_ints, depth_ints]
      rfl
    have s2 : SeqAt.shaped (.list []) = true := rfl
    unfold eqM
    rw [e1, e2]
    simp only [s1, s2, Bool.and_self, if_true]
    cases xs <;> rfl
  have e4 : opNe (.ref n) (.lst []) M = .ok (.bl (!xs.isEmpty)) M := by
    unfold opNe
    simp only [e3]
  rw [e4]
  rfl
end Ly
namespace Ly
open PySem PySem.Spec PyProof.Rows L2
theorem cut_from (ds : List D) (n : Nat) : Ly.cutD ds (some (n : Int)) none = ds.drop n := by
  unfold Ly.cutD
  rw [HT.sIx_none, HT.sIx_nat]
  by_cases h : n ≤ ds.length
  · rw [Nat.min_eq_left h, List.take_of_length_le (by rw [List.length_drop]; omega)]
  · have h' : ds.length ≤ n := by omega
    rw [Nat.min_eq_right h', List.drop_eq_nil_of_le h', List.drop_eq_nil_of_le (Nat.le_refl _), List.take_nil]
theorem cut_to (ds : List D) (n : Nat) : Ly.cutD ds none (some (n : Int)) = ds.take n := by
  unfold Ly.cutD
  rw [HT.sIx_none, HT.sIx_nat, List.drop_zero, Nat.sub_zero]
  by_cases h : n ≤ ds.length
  · rw [Nat.min_eq_left h]
  · have h' : ds.length ≤ n := by omega
    rw [Nat.min_eq_right h', List.take_of_length_le h', List.take_of_length_le (Nat.le_refl _)]
def Nm (n : Nat) (x : Str) : Prop := x.cps.size ≤ n ∧ ∀ c ∈ x.cps.toList, c < 128
theorem Nm.mono {n m : Nat} {x : Str} (h : Nm n x) (hm : n ≤ m) : Nm m x := ⟨Nat.le_trans h.1 hm, h.2⟩
theorem Nm.one {c : Nat} (h : c < 128) : Nm 1 ⟨#[c]⟩ := ⟨Nat.le_refl _, fun d hd => by
  have : d = c := by simpa using hd
  rw [this]
  exact h⟩
end Ly
namespace Ly
open PySem PySem.Spec PyProof.Rows L2
def layB (d : D) : Bool := match pdOf d with
  | some p => p.canLay0 && decide (p.depth ≤ 60)
  | none => false
theorem lay_all : ∀ ds : List D, (∀ d ∈ ds, layB d = true) → ∃ ps, pdAll ds = some ps ∧ PyData.canLayAll0 ps = true ∧ PyData.depthAll ps ≤ 60 ∧ ps.isEmpty = ds.isEmpty
  | [], _ => ⟨[], rfl, rfl, Nat.zero_le _, rfl⟩
  | d :: ds, h => by
    obtain ⟨ps, e, h1, h2, _⟩ := lay_all ds fun x hx => h x (List.mem_cons_of_mem _ hx)
    have hd := h d List.mem_cons_self
    unfold layB at hd
    split at hd
    · next p ep =>
      refine ⟨p :: ps, ?_, ?_, ?_, rfl⟩
      · unfold pdAll
        rw [ep, e]
        rfl
      · show (p.canLay0 && PyData.canLayAll0 ps) = true
        rw [and_l hd, h1]
        rfl
      · show max p.depth (PyData.depthAll ps) ≤ 60
        exact Nat.max_le.mpr ⟨of_decide_eq_true (and_r hd), h2⟩
    · exact nomatch hd
theorem eq_emp {M : Mem} {d : D} {ps : List PyData} (e1 : pdM M d = some (.list ps)) (h1 : PyData.canLayAll0 ps = true) (h2 : PyData.depthAll ps ≤ 60) : eqM M d (.lst []) = some ps.isEmpty := by
  have s1 : SeqAt.shaped (.list ps) = true := by
    show (PyData.canLayAll0 ps && decide (PyData.depthAll ps + 1 ≤ 64)) = true
    rw [h1, decide_eq_true (by omega)]
    rfl
  have s2 : SeqAt.shaped (.list []) = true := rfl
  unfold eqM
  rw [e1, show pdM M (.lst []) = some (.list []) from rfl]
  simp only [s1, s2, Bool.and_self, if_true]
  cases ps <;> rfl
section
variable {M : Mem} {n : Nat} {ds : List D} {Q : D → Mem → Prop}
theorem eqM_lst (hl : ∀ d ∈ ds, layB d = true) : eqM M (.lst ds) (.lst []) = some ds.isEmpty := by
  obtain ⟨ps, e, h1, h2, h3⟩ := lay_all ds hl
  rw [← h3]
  refine eq_emp ?_ h1 h2
  show (pdAll ds).map PyData.list = _
  rw [e]
  rfl
end
theorem DkIs.add {b : Nat} {T N M : Mem} (h : DkIs b (T ++ N) M) (c : Cell) : DkIs b (T ++ (N ++ [c])) (M ++ [c]) := by
  have := h.push c
  rw [List.append_assoc] at this
  exact this
theorem DkIs.new {b : Nat} {T N M : Mem} (h : DkIs b (T ++ N) M) (i : Nat) : M[T.length + i + 2]? = N[i]? := by
  rw [h.get, List.getElem?_append_right (by omega), Nat.add_sub_cancel_left]
theorem DkIs.put {b : Nat} {T N M : Mem} (h : DkIs b (T ++ N) M) (i : Nat) (c : Cell) : DkIs b (T ++ N.set i c) (M.set (T.length + i + 2) c) := by
  have := h.set (T.length + i) c
  rw [List.set_append_right _ _ (by omega), Nat.add_sub_cancel_left] at this
  exact this
end Ly
namespace L2
open PySem PySem.Spec PyProof.Rows
section
variable {prog : Program} {w : World} {A : Around} {E : Value → Shared → Prop} {s : Shared}
theorem adjust_back (n : Nat) : Builtin.Slice.sliceAdjust none none (-1) (n : Int) = ((n : Int) - 1, -1) := by
  unfold Builtin.Slice.sliceAdjust
  simp
theorem places_back (n : Nat) : Builtin.Slice.slicePlaces ((n : Int) - 1) (-1) (-1) = n := by
  unfold Builtin.Slice.slicePlaces
  simp
  split <;> omega
theorem applied_back {sl : Addr} {vl vu vs : Value} {n : Nat} {Q : Int × Int × Nat → Shared → Prop} (hs : s.heap.IsSliceOf sl vl vu vs) (pl : IsPart vl none) (pu : IsPart vu none) (ps : IsPart vs (some (-1)))
    (h : Q ((n : Int) - 1, -1, n) s) : wpAny (model prog w) A (Builtin.Slice.sliceApplied (.ref sl) (pure (n : Int))) Q E s := by
  obtain ⟨o, h1, h2, h3⟩ := id hs
  unfold Builtin.Slice.sliceApplied Builtin.Slice.sliceFields
  refine wpAny_bind (wpAny_bind (wpAny_field h1 h3 (x := vl) rfl (wpAny_bind (wpAny_field h1 h3 (x := vu) rfl (wpAny_bind (wpAny_field h1 h3 (x := vs) rfl (wpAny_pure ?_)))))))
  refine wpAny_bind (HT.slicePart_ ps ?_)
  show wpAny _ _ (if ((-1 : Int) == 0) = true then _ else _) _ _ s
  rw [if_neg (by decide)]
  refine wpAny_bind (HT.slicePart_ pl (wpAny_bind (HT.slicePart_ pu (wpAny_bind (wpAny_pure ?_)))))
  show wpAny _ _ (match Builtin.Slice.sliceAdjust none none (-1) (n : Int) with | (lo, hi) => pure (lo, (-1 : Int), Builtin.Slice.slicePlaces lo hi (-1))) _ _ s
  rw [adjust_back n]
  show wpAny _ _ (pure ((n : Int) - 1, (-1 : Int), Builtin.Slice.slicePlaces ((n : Int) - 1) (-1) (-1))) _ _ s
  rw [places_back]
  exact wpAny_pure h
theorem picked_back (xs : Array Value) : ((List.range xs.size).filterMap fun (m : Nat) => xs[(((xs.size : Int) - 1) + (m : Int) * -1).toNat]?).toArray = xs.toList.reverse.toArray := by
  have e : ∀ m, m < xs.size → xs[(((xs.size : Int) - 1) + (m : Int) * -1).toNat]? = xs[xs.size - 1 - m]? := fun m hm => by
    rw [show (((xs.size : Int) - 1) + (m : Int) * -1).toNat = xs.size - 1 - m by omega]
  have e2 : ((List.range xs.size).filterMap fun (m : Nat) => xs[(((xs.size : Int) - 1) + (m : Int) * -1).toNat]?) = (List.range xs.size).filterMap fun m => xs[xs.size - 1 - m]? := by
    have go : ∀ l : List Nat, (∀ m ∈ l, m < xs.size) → (l.filterMap fun (m : Nat) => xs[(((xs.size : Int) - 1) + (m : Int) * -1).toNat]?) = l.filterMap fun m => xs[xs.size - 1 - m]? := by
      intro l
      induction l with
      | nil => exact fun _ => rfl
      | cons m l ih =>
        intro h
        rw [List.filterMap_cons, List.filterMap_cons, e m (h m List.mem_cons_self), ih fun x hx => h x (List.mem_cons_of_mem _ hx)]
    exact go _ fun m hm => List.mem_range.mp hm
  have e3 : ((List.range xs.size).filterMap fun m => xs[xs.size - 1 - m]?) = ((List.range xs.size).map fun k => xs.size - 1 - k).filterMap (xs[·]?) := by
    rw [List.filterMap_map]
    rfl
  rw [e2, e3, PySem.W.krv_range, List.filterMap_reverse, PySem.W.krv_all]
theorem getItem_back {t sl : Addr} {items : Array Value} {vl vu vs : Value} {Q : Value → Shared → Prop} (ht : IsTup s.heap t items) (hs : s.heap.IsSliceOf sl vl vu vs) (pl : IsPart vl none) (pu : IsPart vu none) (ps : IsPart vs (some (-1)))
    (h : Q (.ref s.heap.objs.size) { s with heap := s.heap.push { cls := .type "tuple", data := .seq items.toList.reverse.toArray } }) (hsz : items.size ≤ sizeLine) : wpAny (model prog w) A (getItem (.ref t) (.ref sl)) Q E s := by
  have fits : sizeOk (.seq items.toList.reverse.toArray) := by
    show items.toList.reverse.toArray.size ≤ sizeLine
    rw [List.size_toArray, List.length_reverse, Array.length_toList]
    exact hsz
  obtain ⟨o, h1, h2, h3⟩ := id hs
  have ty : s.TypeIs (.ref sl) "slice" := ⟨o, h1, h2⟩
  unfold getItem
  try with_reducible refine wpAny_holding ?_
  first | refine wpAny_bind (wpAny_pure ?_) | skip
  refine wpAny_bind (wpAny_sequenceKey ht.typeIs (by decide) ?_)
  refine wpAny_bind (wpAny_callSpecial?_slot (name := Str.ofString "__getitem__") ht.typeIs PyProof.Rows.slot_tuple_getitem
    (wpAny_call_entry PyProof.Rows.slot_tuple_getitem ht.typeIs PyProof.Rows.entry_tuple_getitem ?_ (PyProof.Rows.args_tuple_getitem _ _)))
  show wpAny _ _ (Builtin.Tuple.tupleItemsOf (.ref t) >>= _) _ _ s
  refine wpAny_bind (PyProof.Rows.tupleItemsOf_ ht ?_)
  refine wpAny_bind (wpAny_typeOf ty ?_)
  rw [if_pos (by decide)]
  refine wpAny_bind (applied_back hs pl pu ps ?_)
  have no : ¬ (((((items.size : Int) - 1)) == 0 && (-1 : Int) == 1 && items.size == items.size) = true) := by
    rw [show ((-1 : Int) == 1) = false from rfl, Bool.and_false, Bool.false_and]
    exact Bool.false_ne_true
  show wpAny _ _ (if ((((items.size : Int) - 1)) == 0 && (-1 : Int) == 1 && items.size == items.size) = true then _ else _) _ _ s
  rw [if_neg no, picked_back]
  first
    | exact wpAny_bind (m := Builtin.Tuple.tupleExact _) (wpAny_newObj_type (wpAny_pure ⟨_, rfl, wpAny_pure h⟩) fits)
    | exact wpAny_bind (m := Builtin.Tuple.tupleExact _) (wpAny_newObj_type (wpAny_bind (wpAny_pure (wpAny_pure ⟨_, rfl, wpAny_pure h⟩))) fits)
    | exact wpAny_bind (wpAny_bind (m := Builtin.Tuple.tupleExact _) (wpAny_newObj_type (wpAny_pure (wpAny_pure ⟨_, rfl, wpAny_pure h⟩)) fits))
    | exact wpAny_bind (wpAny_bind (m := Builtin.Tuple.tupleExact _) (wpAny_newObj_type (wpAny_pure ⟨_, rfl, wpAny_pure h⟩) fits))
end
section
variable {X : Cx}
def tRevT (K : PySem.W.Frag) (te : TE) : TE := fun σ H Q => te σ H fun x H1 => ∃ a xs, x = .ref a ∧ SqT K H1 a xs ∧ ∀ p, H1 p = none → Q (.ref p) (upd H1 p (.tup xs.reverse))
theorem pe_revT {e : Expr} {te : TE} {k : Nat} {p1 p2 p3 pos : Pos} (he : PE X e te) : PE X (.Subscript e (.Slice none none (some (.UnaryOp .USub (.Constant (.int 1) k p1) p2)) p3) pos) (tRevT X.K te) := by
  refine ⟨fun pins s σ H Q I h => ?_⟩
  refine Subscript_ (thn (he.run pins s σ H _ I h) fun v s1 ⟨x, H1, I1, r1, a, xs, ex, hx, q⟩ => ?_)
  subst ex
  cases r1
  have step : PO X (some (.UnaryOp .USub (.Constant (.int 1) k p1) p2)) (tPart (tUn (rU fun i => .int (-i)) (tC (.int 1)))) := po_some (pe_un un_neg pe_int)
  refine wpAny_Slice (thn (po_none.run pins s1 σ H1 (fun o H2 => o = none ∧ H2 = H1) I1 ⟨rfl, rfl⟩) fun vl s2 ⟨l, H2, I2, pl, el, e2⟩ => ?_)
  subst el e2
  refine thn (po_none.run pins s2 σ H2 (fun o H3 => o = none ∧ H3 = H2) I2 ⟨rfl, rfl⟩) fun vu s3 ⟨u, H3, I3, pu, eu, e3⟩ => ?_
  subst eu e3
  refine thn (step.run pins s3 σ H3 (fun o H4 => o = some (-1) ∧ H4 = H3) I3 ⟨1, rfl, -1, rfl, rfl, rfl⟩) fun vs s4 ⟨o, H4, I4, ps, eo, e4⟩ => ?_
  subst eo e4
  have I5 : Inv X pins σ H4 { s4 with heap := s4.heap.push { cls := .type "slice", data := .fields #[vl, vu, vs] } } := I4.kept (t' := s4.toks) fun b ob q => Heap.get?_push_of_some _ q
  obtain ⟨its, r, ht, hz⟩ := I5.tuple hx
  have len := r.length
  show wpAny (model X.prog X.w) X.A (subscriptTail e (.Slice none none (some (.UnaryOp .USub (.Constant (.int 1) k p1) p2)) p3) (.ref a) (.ref s4.heap.objs.size)) (EP X pins σ Q) X.xe { s4 with heap := s4.heap.push { cls := .type "slice", data := .fields #[vl, vu, vs] } }
  refine tail_any (ops := [.ref a, .ref s4.heap.objs.size]) ht.typeIs (PyProof.Rows.slot_tuple_getitem.lookup) ?_ (by with_unfolding_all rfl)
  refine getItem_back ht (Heap.IsSliceOf.new _ vl vu vs) pl pu ps ?_ (by rw [List.size_toArray, ← len]; exact hz)
  refine ⟨.ref _, _, I5.laid (t' := s4.toks) (o := .tup xs.reverse) (fun b ob q => Heap.get?_push_of_some _ q) (Nat.le_refl _) ?_, rfl, q _ (I5.hok.fresh (Nat.le_refl _))⟩
  exact ⟨by rw [List.length_reverse]; exact hz, _, r.reverse, IsTup.new _ _⟩
end
end L2
namespace Ly
open PySem PySem.Spec PyProof.Rows L2
section
variable {G : Gd} {k : Nat} {E : XK} {N : List Str} {sc : Scope} {X : Cx} {a : Expr} {ma : ME} {pos : Pos}
def opRevT (d : D) (M : Mem) : Res D := match d with
  | .tup ds => .ok (.tup ds.reverse) M
  | .ftu ds => .ok (.tup ds.reverse) M
  | _ => .bad
theorem ce_revT {kk : Nat} {p1 p2 p3 : Pos} (c : Cq G k E N sc X) (ha : PE X a (tD G.K E ma)) : PE X (.Subscript a (.Slice none none (some (.UnaryOp .USub (.Constant (.int 1) kk p1) p2)) p3) pos) (tD G.K E (mUn opRevT ma)) := by
  obtain rfl := c.g
  refine (pe_revT ha).imp fun σ H Q ⟨env, L, M, he, hm, h⟩ => ?_
  refine ⟨env, L, M, he, hm, Fin.imp (Fin.bind h) fun x H1 ⟨d, M1, L1, s1, m1, r1, h1⟩ => ?_⟩
  unfold opRevT at h1
  split at h1
  · obtain ⟨ad, vs, rfl, q, rk⟩ := r1.tup_inv
    exact ⟨ad, vs, rfl, q, new_tup m1 rk.reverse h1⟩
  · obtain ⟨ad, vs, rfl, q, rk⟩ := r1.ftu_inv
    exact ⟨ad, vs, rfl, q, new_tup m1 rk.reverse h1⟩
  · exact h1.elim
def opRevA (d : D) (M : Mem) : Res D := match d with
  | .tup ds => .ok (.tup ds.reverse) M
  | .ftu ds => .ok (.tup ds.reverse) M
  | d => opRev d M
theorem ce_revA {kk : Nat} {p1 p2 p3 : Pos} (c : Cq G k E N sc X) (ha : PE X a (tD G.K E ma)) : PE X (.Subscript a (.Slice none none (some (.UnaryOp .USub (.Constant (.int 1) kk p1) p2)) p3) pos) (tD G.K E (mUn opRevA ma)) := by
  refine ⟨fun pins s σ H Q I ⟨env, L, M, he, hm, h⟩ => ?_⟩
  have both : mUn opRevA ma env M = mUn opRevT ma env M ∨ mUn opRevA ma env M = mUn opRev ma env M := by
    unfold mUn
    cases ma env M with
    | ok d M1 => cases d <;> first | exact .inl rfl | exact .inr rfl
    | exc x M1 => exact .inl rfl
    | bad => exact .inl rfl
  rcases both with e | e
  · exact (ce_revT c ha).run pins s σ H Q I ⟨env, L, M, he, hm, by rw [← e]; exact h⟩
  · exact (ce_rev c ha).run pins s σ H Q I ⟨env, L, M, he, hm, by rw [← e]; exact h⟩
theorem go_revAT {M : Mem} {Q : D → Mem → Prop} {ds : List D} : Go (opRevA (.tup ds) M) Q = Q (.tup ds.reverse) M := id rfl
theorem go_revAL {M : Mem} {Q : D → Mem → Prop} {ds : List D} : Go (opRevA (.lst ds) M) Q = Q (.lst ds.reverse) M := id rfl
end
end Ly
namespace Ly
open PySem PySem.Spec PyProof.Rows L2
section
variable {G : Gd} {k : Nat} {E : XK} {N : List Str} {sc : Scope} {X : Cx} {e : Expr} {st : Stmt} {pos : Pos} {mr : MA}
def mBadS : MS := fun _ _ => .bad
def mPar2 (i j : Nat) (r : MA) : MS := fun env M => (r env M).bindS fun ds M1 => match ds with
  | [a, b] => .nx ((env.set i (some a)).set j (some b)) M1
  | _ => .bad
def mPar3 (i j l : Nat) (r : MA) : MS := fun env M => (r env M).bindS fun ds M1 => match ds with
  | [a, b, c] => .nx (((env.set i (some a)).set j (some b)).set l (some c)) M1
  | _ => .bad
theorem cs_par2 {i j : Nat} {x y : Str} {a b : Expr} {px py pt : Pos} {kt k2 pt2} (c : Cq G k E N sc X) (hi : N[i]? = some x) (hj : N[j]? = some y) (hij : i ≠ j) (hx : sc.names.lookup x = some NameKind.local) (hy : sc.names.lookup y = some NameKind.local) (ha : PA X [a, b] (tAD G.K E mr))
    (hw : swappedStores [.Tuple [.Name x px, .Name y py] kt pt] (.Tuple [a, b] k2 pt2) X.env = pure (some [x, y]))
    (hs : swapsWithSole [.Tuple [.Name x px, .Name y py] kt pt] (.Tuple [a, b] k2 pt2) pos.line X.env = pure false := by rfl) :
    PS X (.Assign [.Tuple [.Name x px, .Name y py] kt pt] (.Tuple [a, b] k2 pt2) pos) (sD G.K E (mPar2 i j mr)) := by
  refine (ps_par (i := i) (j := j) c.calm (by rw [c.n]; exact c.nd) (by rw [c.n]; exact hi) (by rw [c.n]; exact hj) hij (by rw [c.scq]; exact hx) (by rw [c.scq]; exact hy) ha hw hs).imp fun T σ H ⟨env, L, M, he, hm, h⟩ => ?_
  refine ⟨env, L, M, he, hm, Fin.imp (Fin.bindS h) fun vs H1 ⟨ds, M1, L1, s1, m1, r1, h1⟩ => ?_⟩
  split at h1
  · obtain ⟨v, w, rfl, q1, q2⟩ := two_inv r1
    exact ⟨v, w, rfl, h1 L1 H1 _ Step.refl m1 (((he.step s1).set i q1).set j q2)⟩
  · exact h1.elim
end
end Ly
namespace Ly
open PySem PySem.Spec PyProof.Rows L2
section
variable {G : Gd} {k : Nat} {E : XK} {N : List Str} {sc : Scope} {X : Cx} {a b d e o : Expr} {es : List Expr} {pos p apos cpos : Pos} {ma mb mc mo : ME} {mr : MA}
end
end Ly
namespace Ly
open PySem PySem.Spec PyProof.Rows L2
section
variable {G : Gd} {k j : Nat} {E : XK} {N ps ks : List Str} {sc : Scope} {X : Cx} {e : Expr} {kws : List Keyword} {mr : MA} {pos p kpos : Pos} {x : Str} {f : MF} {g : List Value → List Value} {gV : List V → List V} {gD : List D → List D} {ma : ME} {nm : Option Str}
def mCallW (n : Nat) (gD : List D → List D) (f : MF) (mr : MA) : ME := fun env M => (mr env M).bind fun ds M1 => if ds.length = n then f (gD ds) M1 else .bad
end
end Ly
namespace Ly
open PySem PySem.Spec PyProof.Rows L2
theorem sw2 {x y : Str} {a b : Expr} {px py pt : Pos} {kt : Nat} {k2 : Nat} {pt2 : Pos} {env : PySem.Env} (hk : env.scope.kind = .function) (hx : env.scope.names.lookup x = some .local) (hy : env.scope.names.lookup y = some .local)
    (hl : (py.line == px.line) = true) (hn : (y == x) = false) (h1 : ([a, b].any fun | .Starred .. => true | _ => false) = false) (h2 : [a, b].all (foldedForSure 8) = false) (h3 : [a, b].all (constantsAlone 8) = false) :
    swappedStores [.Tuple [.Name x px, .Name y py] kt pt] (.Tuple [a, b] k2 pt2) env = pure (some [x, y]) := by
  have kx : env.kindOf x = some .local := hx
  have ky : env.kindOf y = some .local := hy
  have hb : env.blockKind = .function := by unfold PySem.Env.blockKind; rw [hk]; rfl
  have lx : (px.line == px.line) = true := by simp
  have e1 : (some NameKind.local == some NameKind.local) = true := rfl
  have d : ([x, y] : List Str).eraseDups = [x, y] := by
    rw [List.eraseDups_cons, List.filter_cons, if_pos (by rw [hn]; rfl), List.filter_nil, List.eraseDups_cons, List.filter_nil]
    rfl
  unfold swappedStores
  simp only [hb, kx, ky, lx, hl, e1, h1, h2, h3, List.filterMap_cons, List.filterMap_nil, List.head?_cons, Option.map_some, Option.getD_some, Expr.pos, Bool.and_self, if_true, d]
  exact (if_neg (by simp)).trans ((if_neg (fun z => Bool.false_ne_true (h1.symm.trans z))).trans ((if_neg (by simp)).trans ((if_neg (by decide)).trans (if_neg (by decide)))))
section
variable {G : Gd} {k : Nat} {E : XK} {N : List Str} {sc : Scope} {X : Cx} {pos : Pos} {mr : MA}
theorem cs_pr2 {i j : Nat} {x y : Str} {a b : Expr} {px py pt pt2 : Pos} {kt k2 : Nat} (c : Cq G k E N sc X) (hi : N[i]? = some x) (hj : N[j]? = some y) (hij : i ≠ j) (hx : sc.names.lookup x = some NameKind.local) (hy : sc.names.lookup y = some NameKind.local) (ha : PA X [a, b] (tAD G.K E mr))
    (hl : (py.line == px.line) = true := by rfl) (hn : (y == x) = false := by decide +kernel) (h1 : ([a, b].any fun | .Starred .. => true | _ => false) = false := by rfl) (h2 : [a, b].all (foldedForSure 8) = false := by rfl) (h3 : [a, b].all (constantsAlone 8) = false := by rfl)
    (hs : swapsWithSole [.Tuple [.Name x px, .Name y py] kt pt] (.Tuple [a, b] k2 pt2) pos.line X.env = pure false := by rfl) :
    PS X (.Assign [.Tuple [.Name x px, .Name y py] kt pt] (.Tuple [a, b] k2 pt2) pos) (sD G.K E (mPar2 i j mr)) :=
  cs_par2 c hi hj hij hx hy ha (sw2 (by rw [c.scq]; exact c.kd) (by rw [c.scq]; exact hx) (by rw [c.scq]; exact hy) hl hn h1 h2 h3) hs
end
end Ly
namespace Ly
open PySem PySem.Spec PyProof.Rows L2
def paired (xs ys : List D) : List D := (xs.zip ys).map fun p => .tup [p.1, p.2]
theorem paired_at {xs ys : List D} {i : Nat} {d : D} (h : (paired xs ys)[i]? = some d) : ∃ x y, xs[i]? = some x ∧ ys[i]? = some y ∧ d = .tup [x, y] := by
  unfold paired at h
  rw [List.getElem?_map] at h
  obtain ⟨p, hp, rfl⟩ := Option.map_eq_some_iff.mp h
  rw [List.getElem?_zip_eq_some] at hp
  exact ⟨p.1, p.2, hp.1, hp.2, rfl⟩
section
variable {K : PySem.W.Frag} {L : Wd} {H : Hp} {a b : Addr} {xs ys : List D}
end
section
variable {G : Gd} {k : Nat} {E : XK} {N : List Str} {sc : Scope} {X : Cx} {a b : Expr} {mr : MA} {pos p tpos : Pos}
theorem go_par2 {i j : Nat} {env : Ly.Env} {M : Mem} {S : Ly.Env → Mem → Prop} {R : D → Mem → Prop} : GoS (mPar2 i j mr env M) S R = Go (mr env M) fun ds M1 => ∃ a b, ds = [a, b] ∧ S ((env.set i (some a)).set j (some b)) M1 := by
  unfold mPar2
  rw [go_bindS]
  congr 1
  funext ds M1
  match ds with
  | [] => simp [GoS]
  | [a] => simp [GoS]
  | [a, b] => exact propext ⟨fun h => ⟨a, b, rfl, h⟩, fun ⟨_, _, e, h⟩ => by cases e; exact h⟩
  | a :: b :: c :: r => simp [GoS]
end
end Ly
namespace Ly
open PySem PySem.Spec PyProof.Rows L2
section
variable {G : Gd} {k : Nat} {N ps ks : List Str} {sc : Scope} {x qual : Str} {params : Arguments} {body : List Stmt} {kws : List (Str × V)} {fd : FuncData} {m : MS}
end
end Ly
namespace Ly
open PySem PySem.Spec PyProof.Rows L2
def tabGet (kvs : List (Str × D)) (z : Str) : Option D := (kvs.find? fun kv => decide (kv.1 = z)).map (·.2)
def opInTab (kvs : List (Str × D)) (d : D) (M : Mem) : Res D := match d with
  | .str z => .ok (.bl (tabGet kvs z).isSome) M
  | _ => .bad
def opNotInTab (kvs : List (Str × D)) (d : D) (M : Mem) : Res D := match d with
  | .str z => .ok (.bl (!(tabGet kvs z).isSome)) M
  | _ => .bad
def opTab (kvs : List (Str × D)) (d : D) (M : Mem) : Res D := match d with
  | .str z => (match tabGet kvs z with
    | some v => .ok v M
    | none => .bad)
  | _ => .bad
section
variable {G : Gd} {k : Nat} {E : XK} {N : List Str} {sc : Scope} {X : Cx} {a b e o : Expr} {ma : ME} {pos p : Pos} {x : Str} {kvs : List (Str × D)}
theorem go_inTab {M : Mem} {Q : D → Mem → Prop} {z : Str} : Go (opInTab kvs (.str z) M) Q = Q (.bl (tabGet kvs z).isSome) M := id rfl
theorem go_notInTab {M : Mem} {Q : D → Mem → Prop} {z : Str} : Go (opNotInTab kvs (.str z) M) Q = Q (.bl (!(tabGet kvs z).isSome)) M := id rfl
theorem go_tab {M : Mem} {Q : D → Mem → Prop} {z : Str} : Go (opTab kvs (.str z) M) Q = ∃ v, tabGet kvs z = some v ∧ Q v M := by
  have e : opTab kvs (.str z) M = (match tabGet kvs z with
    | some v => .ok v M
    | none => .bad) := rfl
  rw [e]
  cases tabGet kvs z <;> simp [Go]
end
end Ly
namespace PySem
open Sem (wp)
abbrev IsZipS (h : Heap) (z TI TO : Addr) (f0 : Value) : Prop := h.get? z = some { cls := .type "zip", data := .fields #[f0, .bool false, .bool true, .ref TI, .ref TO] }
section
variable {prog : Program} {w : World} {A : Around} {E : Value → Shared → Prop} {s : Shared} {z TI TO i1 i2 : Addr} {fp1 fp2 : List Addr} {n1 n2 i : Nat} {P1 P2 : Nat → Value → Prop} {St1 St2 : Nat → Heap → Prop} {a1 a2 : Value}
theorem Draws.orItem {Q : Option Value → Shared → Prop} (D1 : Draws prog w A i1 fp1 n1 P1 St1) (hlt : i < n1) (st : St1 i s.heap)
    (hQ : ∀ x h' tk, P1 i x → St1 (i + 1) h' → Heap.SameBut i1 s.heap h' → Q (some x) { s with heap := h', toks := tk }) : wpAny (model prog w) A (Builtin.SmallTypes.nextOrEnd (.ref i1)) Q E s := by
  unfold Builtin.SmallTypes.nextOrEnd
  exact wpAny_bind (wpAny_attempt (D1.item i s _ _ hlt st fun x h' tk p st' hs => wpAny_pure (hQ x h' tk p st' hs)))
theorem Draws.orEnd {Q : Option Value → Shared → Prop} (D1 : Draws prog w A i1 fp1 n1 P1 St1) (st : St1 n1 s.heap)
    (hQ : ∀ h', Heap.ExtBut i1 s.heap h' → Q none { s with heap := h' }) : wpAny (model prog w) A (Builtin.SmallTypes.nextOrEnd (.ref i1)) Q E s := by
  unfold Builtin.SmallTypes.nextOrEnd
  refine wpAny_bind (wpAny_attempt (D1.done s _ _ st fun h' e hx he => ?_))
  obtain ⟨o, ho, hc⟩ := he
  refine wpAny_bind (wpAny_isInstance (T := "StopIteration") (b := true) ⟨o, ho, hc⟩ isSubtype_stop ?_)
  exact wpAny_pure (hQ _ hx)
theorem zipS_next_item {Q : Value → Shared → Prop} (S : ZipSep2 z TI TO i1 i2 fp1 fp2) (D1 : Draws prog w A i1 fp1 n1 P1 St1) (D2 : Draws prog w A i2 fp2 n2 P2 St2)
    (hz : IsZipS s.heap z TI TO .none) (hTI : IsTupOf2 s.heap TI (.ref i1) (.ref i2)) (hTO : IsTupOf2 s.heap TO a1 a2) (st1 : St1 i s.heap) (st2 : St2 i s.heap) (hlt1 : i < n1) (hlt2 : i < n2)
    (hQ : ∀ x1 x2 h' tk, P1 i x1 → P2 i x2 → IsZipS h' z TI TO (rawInt s.heap.objs.size) → IsTupOf2 h' TO x1 x2 → St1 (i + 1) h' → St2 (i + 1) h' → IsTupOf2 h' s.heap.objs.size x1 x2 → h'.objs.size = s.heap.objs.size + 1 →
      (∀ c o, c ≠ z → c ≠ TO → c ≠ i1 → c ≠ i2 → s.heap.get? c = some o → h'.get? c = some o) → Q (.ref s.heap.objs.size) { s with heap := h', toks := tk }) :
    wpAny (model prog w) A (Builtin.«zip.__next__» ⟨[.ref z], []⟩) (fun fin s' => ∃ v, fin = .done (.ret v) ∧ Q v s') E s := by
  obtain ⟨hp, g, d, tk0, os⟩ := s
  show wpAny _ _ (field (.ref z) 2 >>= _) _ _ _
  refine wpAny_bind (wpAny_field hz rfl (x := .bool true) rfl ?_)
  show wpAny _ _ (field (.ref z) 3 >>= _) _ _ _
  refine wpAny_bind (wpAny_field hz rfl (x := .ref TI) rfl ?_)
  refine wpAny_bind (wpAny_seqItems hTI rfl ?_)
  show wpAny _ _ (Builtin.SmallTypes.ownedTupleIsFree (.ref z) >>= _) _ _ _
  refine wpAny_bind ?_
  unfold Builtin.SmallTypes.ownedTupleIsFree
  refine wpAny_bind (wpAny_field hz rfl (x := .none) rfl (wpAny_pure ?_))
  simp only [if_true]
  refine wpAny_bind (wpAny_rule ?_)
  refine wpAny_bind (wpAny_field hz rfl (x := .ref TO) rfl ?_)
  refine wpAny_bind (wpAny_setField_rec hz (by simp) fun g0 hz0 hs0 => ?_)
  replace hz0 : IsZipS g0 z TI TO .ellipsis := hz0
  replace hs0 : Heap.SameBut z hp g0 := hs0
  refine wpAny_bind ?_
  simp only [List.zipIdx_cons, List.zipIdx_nil, List.forIn_cons, List.forIn_nil]
  refine wpAny_bind (wpAny_bind (wpAny_onRaise ?_))
  show wpAny _ _ (Builtin.SmallTypes.nextOrEnd (.ref i1)) _ _ ⟨g0, g, d, tk0, os⟩
  refine D1.orItem hlt1 (D1.over st1 hs0 S.zf1) fun x1 p1 tk1 hx1 sn1 hp1 => ?_
  replace hp1 : Heap.SameBut i1 g0 p1 := hp1
  have hU1 : IsTupOf2 p1 TO a1 a2 := hp1.extBut _ _ S.Ti1 (hs0.extBut _ _ S.TOz hTO)
  refine wpAny_bind (wpAny_seqItems (s := ⟨p1, g, d, tk1, os⟩) hU1 rfl ?_)
  refine wpAny_bind (updateSeq_IsTupOf2 (s := ⟨p1, g, d, tk1, os⟩) hU1 fun g1 hT1 hs1 => ?_)
  replace hT1 : IsTupOf2 g1 TO x1 a2 := hT1
  replace hs1 : Heap.SameBut TO p1 g1 := hs1
  refine wpAny_bind (wpAny_letGo (wpAny_pure ?_))
  refine wpAny_bind (wpAny_bind (wpAny_onRaise ?_))
  show wpAny _ _ (Builtin.SmallTypes.nextOrEnd (.ref i2)) _ _ ⟨g1, g, d, tk1, os⟩
  refine D2.orItem hlt2 (D2.over (D2.over (D2.over st2 hs0 S.zf2) hp1 S.sep1_2) hs1 S.Tf2) fun x2 p2 tk2 hx2 sn2 hp2 => ?_
  replace hp2 : Heap.SameBut i2 g1 p2 := hp2
  have hU2 : IsTupOf2 p2 TO x1 a2 := hp2.extBut _ _ S.Ti2 hT1
  refine wpAny_bind (wpAny_seqItems (s := ⟨p2, g, d, tk2, os⟩) hU2 rfl ?_)
  refine wpAny_bind (updateSeq_IsTupOf2 (s := ⟨p2, g, d, tk2, os⟩) hU2 fun g2 hT2 hs2 => ?_)
  replace hT2 : IsTupOf2 g2 TO x1 x2 := hT2
  replace hs2 : Heap.SameBut TO p2 g2 := hs2
  refine wpAny_bind (wpAny_letGo (wpAny_pure (wpAny_pure ?_)))
  refine wpAny_bind (wpAny_seqItems (s := ⟨g2, g, d, tk2, os⟩) hT2 rfl ?_)
  refine wpAny_bind (wpAny_newTuple ?_)
  have hsz : g2.objs.size = hp.objs.size := by rw [hs2.1, hp2.1, hs1.1, hp1.1, hs0.1]
  have hzz : IsZipS g2 z TI TO .ellipsis := (hs2.extBut _ _ S.TOz.symm (hp2.extBut _ _ S.zi2 (hs1.extBut _ _ S.TOz.symm (hp1.extBut _ _ S.zi1 hz0))))
  have hkk : ∀ c o, c ≠ z → c ≠ TO → c ≠ i1 → c ≠ i2 → hp.get? c = some o → g2.get? c = some o := fun c o cz cT c1 c2 e =>
    (hs2.extBut _ _ cT (hp2.extBut _ _ c2 (hs1.extBut _ _ cT (hp1.extBut _ _ c1 (hs0.extBut _ _ cz e)))))
  have hj1 : St1 (i + 1) g2 := (D1.over (D1.over (D1.over sn1 hs1 S.Tf1) hp2 S.sep2_1) hs2 S.Tf1)
  have hj2 : St2 (i + 1) g2 := (D2.over sn2 hs2 S.Tf2)
  have hzlt : z < g2.objs.size := Heap.lt_size hzz
  show wpAny _ _ (Builtin.SmallTypes.ownedTupleHandOut (.ref z) (.ref g2.objs.size) >>= _) _ _ ⟨g2.push { cls := .type "tuple", data := .seq #[x1, x2] }, g, d, tk2, os⟩
  refine wpAny_bind ?_
  unfold Builtin.SmallTypes.ownedTupleHandOut
  have hz6 : IsZipS (g2.push { cls := .type "tuple", data := .seq #[x1, x2] }) z TI TO .ellipsis := Heap.get?_push_of_some _ hzz
  refine wpAny_bind (wpAny_setField_rec hz6 (by simp) fun h7 hz7 hs7 => ?_)
  replace hz7 : IsZipS h7 z TI TO (rawInt g2.objs.size) := hz7
  refine wpAny_setField_rec hz7 (by simp) fun h8 hz8 hs8 => ?_
  replace hz8 : IsZipS h8 z TI TO (rawInt g2.objs.size) := hz8
  replace hs7 : Heap.SameBut z (g2.push { cls := .type "tuple", data := .seq #[x1, x2] }) h7 := hs7
  replace hs8 : Heap.SameBut z h7 h8 := hs8
  have up : ∀ c o, c ≠ z → g2.get? c = some o → h8.get? c = some o := fun c o c1 e => hs8.extBut _ _ c1 (hs7.extBut _ _ c1 (Heap.get?_push_of_some _ e))
  have hT8 : IsTupOf2 h8 g2.objs.size x1 x2 := hs8.extBut _ _ (Nat.ne_of_gt hzlt) (hs7.extBut _ _ (Nat.ne_of_gt hzlt) (Heap.get?_push_size _ rfl))
  have hzz8 : h8.objs.size = g2.objs.size + 1 := by rw [hs8.1, hs7.1, Heap.size_push]
  rw [hsz] at hz8 hT8 hzz8
  refine wpAny_pure ⟨_, rfl, ?_⟩
  show Q (.ref g2.objs.size) ⟨h8, g, d, tk2, os⟩
  rw [hsz]
  exact hQ x1 x2 h8 tk2 hx1 hx2 hz8 (up _ _ S.TOz hT2) (D1.frame _ _ _ hj1 fun b hb o e => up b o (fun q => S.zf1 (q ▸ hb)) e) (D2.frame _ _ _ hj2 fun b hb o e => up b o (fun q => S.zf2 (q ▸ hb)) e) hT8 hzz8 fun c o cz cT c1 c2 e => up c o cz (hkk c o cz cT c1 c2 e)
theorem wpAny_stop {α : Type} {Q : α → Shared → Prop} (hh : A.handled = none) (hE : ∀ h' e, (∀ b o, s.heap.get? b = some o → h'.get? b = some o) → (∃ o, h'.get? e = some o ∧ o.cls = .type "StopIteration") → E (.ref e) { s with heap := h' }) :
    wpAny (model prog w) A (Builtin.SmallTypes.stopIteration : Sem α) Q E s := by
  unfold Builtin.SmallTypes.stopIteration
  show wpAny _ _ (newExc (.type "StopIteration") [] >>= _) _ _ _
  refine wpAny_bind ?_
  simp only [newExc, newTuple]
  refine wpAny_bind (wpAny_newObj_type ?_ (by size_fits))
  refine wpAny_bind (m := firstArgMember _ _) (wpAny_of_eq (a := Value.none) (by first | rfl | (simp only [firstArgMember]; rfl)) ?_)
  refine wpAny_newObj_type ?_ (by size_fits)
  simp only [raiseNew]
  refine wpAny_bind (wpAny_handled ?_)
  rw [hh]
  refine wpAny_bind (wpAny_pure (wpAny_throw ?_))
  exact hE _ _ (fun b o e => Heap.get?_push_of_some _ (Heap.get?_push_of_some _ e)) ⟨_, Heap.get?_push_size _ rfl, rfl⟩
theorem zipS_next_end {Q : Fin → Shared → Prop} (hh : A.handled = none) (S : ZipSep2 z TI TO i1 i2 fp1 fp2) (D1 : Draws prog w A i1 fp1 n1 P1 St1) (D2 : Draws prog w A i2 fp2 n2 P2 St2)
    (hz : IsZipS s.heap z TI TO .none) (hTI : IsTupOf2 s.heap TI (.ref i1) (.ref i2)) (hTO : IsTupOf2 s.heap TO a1 a2) (st1 : St1 n1 s.heap) (st2 : St2 n2 s.heap)
    (hE : ∀ h' tk e, (∀ c o, c ≠ z → c ≠ TO → c ≠ i1 → c ≠ i2 → s.heap.get? c = some o → h'.get? c = some o) → (∃ o, h'.get? e = some o ∧ o.cls = .type "StopIteration") → E (.ref e) { s with heap := h', toks := tk }) :
    wpAny (model prog w) A (Builtin.«zip.__next__» ⟨[.ref z], []⟩) Q E s := by
  obtain ⟨hp, g, d, tk0, os⟩ := s
  show wpAny _ _ (field (.ref z) 2 >>= _) _ _ _
  refine wpAny_bind (wpAny_field hz rfl (x := .bool true) rfl ?_)
  show wpAny _ _ (field (.ref z) 3 >>= _) _ _ _
  refine wpAny_bind (wpAny_field hz rfl (x := .ref TI) rfl ?_)
  refine wpAny_bind (wpAny_seqItems hTI rfl ?_)
  show wpAny _ _ (Builtin.SmallTypes.ownedTupleIsFree (.ref z) >>= _) _ _ _
  refine wpAny_bind ?_
  unfold Builtin.SmallTypes.ownedTupleIsFree
  refine wpAny_bind (wpAny_field hz rfl (x := .none) rfl (wpAny_pure ?_))
  simp only [if_true]
  refine wpAny_bind (wpAny_rule ?_)
  refine wpAny_bind (wpAny_field hz rfl (x := .ref TO) rfl ?_)
  refine wpAny_bind (wpAny_setField_rec hz (by simp) fun g0 hz0 hs0 => ?_)
  replace hz0 : IsZipS g0 z TI TO .ellipsis := hz0
  replace hs0 : Heap.SameBut z hp g0 := hs0
  refine wpAny_bind ?_
  simp only [List.zipIdx_cons, List.zipIdx_nil, List.forIn_cons, List.forIn_nil]
  refine wpAny_bind (wpAny_bind (wpAny_onRaise ?_))
  show wpAny _ _ (Builtin.SmallTypes.nextOrEnd (.ref i1)) _ _ ⟨g0, g, d, tk0, os⟩
  refine D1.orEnd (D1.over st1 hs0 S.zf1) fun q1 hq1 => ?_
  replace hq1 : Heap.ExtBut i1 g0 q1 := hq1
  have hzq : IsZipS q1 z TI TO .ellipsis := hq1 _ _ S.zi1 hz0
  refine wpAny_bind (wpAny_setField_rec (s := ⟨q1, g, d, tk0, os⟩) hzq (by simp) fun q2 hz2 hq2 => ?_)
  replace hq2 : Heap.SameBut z q1 q2 := hq2
  have st2' : St2 n2 q2 := D2.over (D2.frame _ _ _ (D2.over st2 hs0 S.zf2) fun b hb o e => hq1 _ _ (fun (x : b = i1) => S.sep1_2 (x ▸ hb)) e) hq2 S.zf2
  refine wpAny_bind ?_
  refine wpAny_bind ?_
  simp only [List.drop_succ_cons, List.drop_zero, List.zipIdx_cons, List.zipIdx_nil, List.forIn_cons, List.forIn_nil]
  refine wpAny_bind ?_
  refine wpAny_bind (D2.orEnd st2' fun q3 hq3 => ?_)
  replace hq3 : Heap.ExtBut i2 q2 q3 := hq3
  refine wpAny_pure ?_
  refine wpAny_pure ?_
  refine wpAny_bind (wpAny_rule ?_)
  refine wpAny_stop hh fun h' e hk he => ?_
  exact hE h' tk0 e (fun c o cz cT c1 c2 x => hk _ _ (hq3 _ _ c2 (hq2.extBut _ _ cz (hq1 _ _ c1 (hs0.extBut _ _ cz x))))) he
end
end PySem
namespace PySem
open Sem (wp)
abbrev IsZipB (b : Bool) (h : Heap) (z TI TO : Addr) (f0 : Value) : Prop := h.get? z = some { cls := .type "zip", data := .fields #[f0, .bool false, .bool b, .ref TI, .ref TO] }
section
variable {prog : Program} {w : World} {A : Around} {E : Value → Shared → Prop} {s : Shared} {z TI TO i1 i2 : Addr} {fp1 fp2 : List Addr} {n1 n2 i : Nat} {P1 P2 : Nat → Value → Prop} {St1 St2 : Nat → Heap → Prop} {a1 a2 : Value}
theorem pyNext_zipB_item (b : Bool) {Q : Option Value → Shared → Prop} (S : ZipSep2 z TI TO i1 i2 fp1 fp2) (D1 : Draws prog w A.in1 i1 fp1 n1 P1 St1) (D2 : Draws prog w A.in1 i2 fp2 n2 P2 St2)
    (hz : IsZipB b s.heap z TI TO .none) (hTI : IsTupOf2 s.heap TI (.ref i1) (.ref i2)) (hTO : IsTupOf2 s.heap TO a1 a2) (st1 : St1 i s.heap) (st2 : St2 i s.heap) (hlt1 : i < n1) (hlt2 : i < n2)
    (hQ : ∀ x1 x2 h' tk, P1 i x1 → P2 i x2 → IsZipB b h' z TI TO (rawInt s.heap.objs.size) → IsTupOf2 h' TO x1 x2 → St1 (i + 1) h' → St2 (i + 1) h' → IsTupOf2 h' s.heap.objs.size x1 x2 → h'.objs.size = s.heap.objs.size + 1 →
      (∀ c o, c ≠ z → c ≠ TO → c ≠ i1 → c ≠ i2 → s.heap.get? c = some o → h'.get? c = some o) → Q (some (.ref s.heap.objs.size)) { s with heap := h', toks := tk }) :
    wpAny (model prog w) A (pyNext (.ref z)) Q E s := by
  cases b with
  | false => exact wpAny_pyNext_zipD2_item S D1 D2 hz hTI hTO st1 st2 hlt1 hlt2 hQ
  | true =>
    have hT : s.TypeIs (.ref z) "zip" := ⟨_, hz, rfl⟩
    unfold pyNext
    exact wpAny_bind (wpAny_attempt (wpAny_callSpecial?_slot (name := Str.ofString "__next__") hT F.slot_zip_next
      (wpAny_call_entry F.slot_zip_next hT F.entry_zip_next
        (zipS_next_item S D1 D2 hz hTI hTO st1 st2 hlt1 hlt2 fun x1 x2 h' tk y1 y2 b1 b2 d1 d2 b5 b6 b7 => wpAny_pure (hQ x1 x2 h' tk y1 y2 b1 b2 d1 d2 b5 b6 b7)) (F.args_zip_next_1 _))))
theorem pyNext_zipB_end (b : Bool) {Q : Option Value → Shared → Prop} (hh : A.handled = none) (S : ZipSep2 z TI TO i1 i2 fp1 fp2) (D1 : Draws prog w A.in1 i1 fp1 n1 P1 St1) (D2 : Draws prog w A.in1 i2 fp2 n2 P2 St2)
    (hz : IsZipB b s.heap z TI TO .none) (hTI : IsTupOf2 s.heap TI (.ref i1) (.ref i2)) (hTO : IsTupOf2 s.heap TO a1 a2) (st1 : St1 i s.heap) (st2 : St2 i s.heap) (hle1 : i ≤ n1) (hle2 : i ≤ n2) (hend : i = n1 ∨ i = n2) (hb : b = true → i = n1 ∧ i = n2)
    (hQ : ∀ h' tk, (∀ c o, c ≠ z → c ≠ TO → c ≠ i1 → c ≠ i2 → s.heap.get? c = some o → h'.get? c = some o) → Q none { s with heap := h', toks := tk }) : wpAny (model prog w) A (pyNext (.ref z)) Q E s := by
  cases b with
  | false => exact wpAny_pyNext_zipD2_end S D1 D2 hz hTI hTO st1 st2 hle1 hle2 hend hQ
  | true =>
    obtain ⟨e1, e2⟩ := hb rfl
    have hT : s.TypeIs (.ref z) "zip" := ⟨_, hz, rfl⟩
    unfold pyNext
    refine wpAny_bind (wpAny_attempt (wpAny_callSpecial?_slot (name := Str.ofString "__next__") hT F.slot_zip_next
      (wpAny_call_entry F.slot_zip_next hT F.entry_zip_next (zipS_next_end hh S D1 D2 hz hTI hTO (by rw [← e1]; exact st1) (by rw [← e2]; exact st2) fun h' tk e hk he => ?_) (F.args_zip_next_1 _))))
    obtain ⟨o, ho, hc⟩ := he
    refine wpAny_bind (wpAny_isInstance (T := "StopIteration") (b := true) ⟨o, ho, hc⟩ isSubtype_stop ?_)
    exact wpAny_pure (hQ _ _ hk)
theorem letOwnedTupleGo_zipB (b : Bool) {elts : List Expr} {x1} {pos : Pos} {T : Addr} {Q : Unit → Shared → Prop} (hz : IsZipB b s.heap z TI TO (rawInt T))
    (hQ : ∀ h', IsZipB b h' z TI TO .none → Heap.SameBut z s.heap h' → Q () { s with heap := h' }) :
    wpAny (model prog w) A (letOwnedTupleGo (.Tuple elts x1 pos) (.ref z) (.ref T)) Q E s := by
  unfold letOwnedTupleGo
  refine wpAny_bind (wpAny_load hz ?_)
  show wpAny _ _ (if (["enumerate", "zip", "dict_itemiterator", "dict_reverseitemiterator", "odict_iterator", "itertools.zip_longest", "itertools.pairwise"].contains "zip" &&
      (#[rawInt T, .bool false, .bool b, .ref TI, .ref TO] : Array Value)[0]? == some (rawInt T)) = true then _ else _) Q E s
  rw [if_pos (by simp)]
  refine wpAny_bind (wpAny_rule ?_)
  show wpAny _ _ (setField (.ref z) 0 .none) Q E s
  exact wpAny_setField_rec hz (by simp) fun h' hz' hs' => hQ h' hz' hs'
theorem pyIter_zipB (b : Bool) {f0 : Value} {Q : Value → Shared → Prop} (hz : IsZipB b s.heap z TI TO f0) (h : Q (.ref z) s) : wpAny (model prog w) A (pyIter (.ref z)) Q E s := by
  have hT : s.TypeIs (.ref z) "zip" := ⟨_, hz, rfl⟩
  refine wpAny_pyIter_slot hT F.slot_zip_iter (wpAny_call_entry F.slot_zip_iter hT F.entry_zip_iter ?_ (F.args_zip_iter_1 _))
  show wpAny _ _ (ret (.ref z)) _ _ s
  exact wpAny_pure ⟨_, rfl, "zip", _, hT, F.slot_zip_next.lookup, h⟩
end
theorem F.typeCall_zip_strict (a b c : Value) : checkTypeCall "zip" ⟨[a, b], [(Str.ofString "strict", c)]⟩ = pure () := by kernel_rfl
theorem F.newCall_zip_strict (a b c : Value) : checkBuiltinCall "zip.__new__" ⟨[.type "zip", a, b], [(Str.ofString "strict", c)]⟩ = pure () := by kernel_rfl
theorem F.args_object_init_strict (obj a b c : Value) : argsOk "object.__init__" ⟨[obj, a, b], [(Str.ofString "strict", c)]⟩ := by unfold argsOk; kernel_rfl
abbrev gzS2 (h : Heap) (o1 o2 : Obj) : Heap := (gzO2 h o1 o2).push { cls := .type "zip", data := .fields #[.none, .bool false, .bool true, .ref ((h.push o1).push o2).objs.size, .ref (gzT2 h o1 o2).objs.size] }
set_option maxHeartbeats 1000000 in
theorem meets_zip_newS2 {v1 v2 : Value} {o1 o2 : Obj} {H1 H2 : Heap → Prop} (B1 : Begins v1 o1 H1) (B2 : Begins v2 o2 H2) :
    Meets (Builtin.«zip.__new__» ⟨[.type "zip", v1, v2], [(Str.ofString "strict", .bool true)]⟩) (fun _ R s => (H1 s.heap ∧ H2 s.heap) ∧
      R (.ok (.ret (.ref (gzO2 s.heap o1 o2).objs.size))) { s with heap := gzS2 s.heap o1 o2 }) :=
  .of_wp fun prog w A R s h => by
    obtain ⟨hp, g, d, tk, os⟩ := s; obtain ⟨⟨h1, h2⟩, h⟩ := h
    have hsub := sub_zip
    have q1 : ∀ {A' : Around} {E : Value → Shared → Prop} {Q : Value → Shared → Prop}, Q (.ref hp.objs.size) ⟨(hp.push o1), g, d, tk, os⟩ → wpAny (model prog w) A' (pyIter v1) Q E ⟨hp, g, d, tk, os⟩ :=
      fun q => B1.iter prog w _ _ ⟨hp, g, d, tk, os⟩ _ (B1.keeps _ _ h1 fun b o' e => e) q
    have q2 : ∀ {A' : Around} {E : Value → Shared → Prop} {Q : Value → Shared → Prop}, Q (.ref (hp.push o1).objs.size) ⟨((hp.push o1).push o2), g, d, tk, os⟩ → wpAny (model prog w) A' (pyIter v2) Q E ⟨(hp.push o1), g, d, tk, os⟩ :=
      fun q => B2.iter prog w _ _ ⟨(hp.push o1), g, d, tk, os⟩ _ (B2.keeps _ _ h2 fun b o' e => (Heap.get?_push_of_some _ e)) q
    have e2 : (Str.ofString "strict" != ("strict" : Str)) = false := by decide +kernel
    wp_walk using q1, q2
    exact ⟨_, rfl, h⟩
section
variable {prog : Program} {w : World} {A : Around} {E : Value → Shared → Prop} {s : Shared}
theorem zip_beginsS {v1 v2 : Value} {o1 o2 : Obj} {H1 H2 : Heap → Prop} {Q : Value → Shared → Prop} (B1 : Begins v1 o1 H1) (B2 : Begins v2 o2 H2) (h1 : H1 s.heap) (h2 : H2 s.heap)
    (h : ∀ h', IsZipB true h' (s.heap.objs.size + 4) (s.heap.objs.size + 2) (s.heap.objs.size + 3) .none → IsTupOf2 h' (s.heap.objs.size + 2) (.ref s.heap.objs.size) (.ref (s.heap.objs.size + 1)) →
      IsTupOf2 h' (s.heap.objs.size + 3) .none .none → h'.get? s.heap.objs.size = some o1 → h'.get? (s.heap.objs.size + 1) = some o2 → h'.objs.size = s.heap.objs.size + 5 →
      (∀ c o, s.heap.get? c = some o → h'.get? c = some o) → Q (.ref (s.heap.objs.size + 4)) { s with heap := h' }) :
    wpAny (model prog w) A (call (.type "zip") [v1, v2] [(Str.ofString "strict", .bool true)]) Q E s := by
  refine callType_newKw F.called_zip (by decide) (F.typeCall_zip_strict _ _ _) (F.newCall_zip_strict _ _ _) (fun obj => F.args_object_init_strict obj _ _ _) F.entry_zip_new
    (meets_zip_newS2 B1 B2) ⟨⟨h1, h2⟩, ?_⟩
  have z1 : (s.heap.push o1).objs.size = s.heap.objs.size + 1 := by rw [Heap.size_push]
  have z2 : ((s.heap.push o1).push o2).objs.size = s.heap.objs.size + 2 := by rw [Heap.size_push, z1]
  have zT : (gzT2 s.heap o1 o2).objs.size = s.heap.objs.size + 3 := by rw [Heap.size_push, z2]
  have zO : (gzO2 s.heap o1 o2).objs.size = s.heap.objs.size + 4 := by rw [Heap.size_push, zT]
  have zZ : (gzS2 s.heap o1 o2).objs.size = s.heap.objs.size + 5 := by rw [Heap.size_push, zO]
  have gZ : (gzS2 s.heap o1 o2).get? (gzO2 s.heap o1 o2).objs.size = some { cls := .type "zip", data := .fields #[.none, .bool false, .bool true, .ref ((s.heap.push o1).push o2).objs.size, .ref (gzT2 s.heap o1 o2).objs.size] } := Heap.get?_push_size _ rfl
  have gO : (gzS2 s.heap o1 o2).get? (gzT2 s.heap o1 o2).objs.size = some { cls := .type "tuple", data := .seq #[.none, .none] } := Heap.get?_push_of_some _ (Heap.get?_push_size _ rfl)
  have gT : (gzS2 s.heap o1 o2).get? ((s.heap.push o1).push o2).objs.size = some { cls := .type "tuple", data := .seq #[.ref s.heap.objs.size, .ref (s.heap.push o1).objs.size] } := Heap.get?_push_of_some _ (Heap.get?_push_of_some _ (Heap.get?_push_size _ rfl))
  have g1 : (gzS2 s.heap o1 o2).get? s.heap.objs.size = some o1 := Heap.get?_push_of_some _ (Heap.get?_push_of_some _ (Heap.get?_push_of_some _ (Heap.get?_push_of_some _ (Heap.get?_push_size _ B1.free))))
  have g2 : (gzS2 s.heap o1 o2).get? (s.heap.push o1).objs.size = some o2 := Heap.get?_push_of_some _ (Heap.get?_push_of_some _ (Heap.get?_push_of_some _ (Heap.get?_push_size _ B2.free)))
  rw [zO, zT, z2] at gZ
  rw [zT] at gO
  rw [z2, z1] at gT
  rw [z1] at g2
  show _ ∧ _
  rw [zO]
  exact ⟨⟨_, gZ, rfl⟩, h _ gZ gT gO g1 g2 zZ fun c o e => Heap.get?_push_of_some _ (Heap.get?_push_of_some _ (Heap.get?_push_of_some _ (Heap.get?_push_of_some _ (Heap.get?_push_of_some _ e))))⟩
end
section
variable {M : Model} {A : Around} {E : Value → Shared → Prop} {s : Shared} {env : Env}
theorem callWith_typeKw {pos : Pos} {T : String} {e : Expr} {rest : List Expr} {kws : List Keyword} {Q : Value → Shared → Prop}
    (h : wpAny M A (spliced (backTo pos (starEach (e :: rest) env))) (fun vs s1 => wpAny M A (evalAll ((backToKw pos (keywordEach kws env)).map (·.2)))
      (fun kvs s2 => wpAny M A (call (.type T) vs (((backToKw pos (keywordEach kws env)).filterMap (·.1)).zip kvs)) Q E s2) E s1) E s)
    (he : backTo pos (starEach (e :: rest) env) = (false, eval e env) :: backTo pos (starEach rest env) := by rfl)
    (hplain : (backTo pos (starEach (e :: rest) env)).any (·.1) = false := by rfl)
    (hall : (backToKw pos (keywordEach kws env)).all (·.1.isSome) = true := by rfl)
    (hkw : (backToKw pos (keywordEach kws env)).any (·.1.isNone) = false := by rfl) :
    wpAny M A (callWith pos (.type T) [] (backTo pos (starEach (e :: rest) env)) (backToKw pos (keywordEach kws env))) Q E s := by
  have h2 : wpAny M A (evalArgs (.type T) true (backTo pos (starEach (e :: rest) env)) (backToKw pos (keywordEach kws env))) (fun a s1 => wpAny M A (call (.type T) ([] ++ a.pos) a.kw) Q E s1) E s := by
    rw [he] at h ⊢
    exact PyProof.Rows.evalArgs_kwB hall h
  unfold callWith
  refine wpAny_bind (wpAny_holding (wpAny_mono h2 (fun a s1 h1 => wpAny_bind (wpAny_standAt ?_)) fun _ _ x => x))
  simp only [hplain, hkw, Bool.or_false]
  refine wpAny_bind (wpAny_pure ?_)
  exact wpAny_bind (wpAny_mono h1 (fun r s2 hr => wpAny_bind (wpAny_holding (wpAny_point (wpAny_pure hr)))) fun _ _ x => x)
end
end PySem
namespace L2
open PySem PySem.Spec PyProof.Rows
inductive Src where
  | l (a : Addr) | t (a : Addr) | s (z : Str)
def Src.has (K : PySem.W.Frag) (H : Hp) : Src → List V → Prop
  | .l a, xs => SqL K H a xs
  | .t a, xs => SqT K H a xs
  | .s z, xs => xs = z.cps.toList.map fun c => .str ⟨#[c]⟩
def Src.it (i1 : Addr) (n : Nat) (h : Heap) : Src → Prop
  | .l a => h.IsListIter i1 a n
  | .t a => h.IsTupleIter i1 a n
  | .s z => ∃ t, h.IsStrIter i1 (strIterType z) z t n
def Src.fp (i1 : Addr) : Src → List Addr
  | .l a => [i1, a]
  | .t a => [i1, a]
  | .s _ => [i1]
def Src.ne (c : Addr) : Src → Prop
  | .l a => a ≠ c
  | .t a => a ≠ c
  | .s _ => True
theorem Src.fp_mem {src : Src} {i1 : Addr} : i1 ∈ src.fp i1 := by cases src <;> simp [Src.fp]
theorem Src.fp_not {src : Src} {i1 c : Addr} (h : c ≠ i1) (n : src.ne c) : c ∉ src.fp i1 := by
  cases src with
  | l a => simp only [Src.fp, List.mem_cons, List.not_mem_nil, or_false]; exact fun z => z.elim h fun z => n z.symm
  | t a => simp only [Src.fp, List.mem_cons, List.not_mem_nil, or_false]; exact fun z => z.elim h fun z => n z.symm
  | s z => simp only [Src.fp, List.mem_cons, List.not_mem_nil, or_false]; exact h
theorem Src.it_obj {src : Src} {i1 : Addr} {n : Nat} {h : Heap} (st : src.it i1 n h) : ∃ o, h.get? i1 = some o ∧ ∀ v, o.data ≠ .cell v := by
  cases src with
  | l a => obtain ⟨o, e, _, d⟩ := st; exact ⟨o, e, fun v q => by rw [d] at q; cases q⟩
  | t a => obtain ⟨o, e, _, d⟩ := st; exact ⟨o, e, fun v q => by rw [d] at q; cases q⟩
  | s z => obtain ⟨_, o, e, _, d⟩ := st; exact ⟨o, e, fun v q => by rw [d] at q; cases q⟩
theorem Src.it_keep {src : Src} {i1 : Addr} {n : Nat} {h h' : Heap} (st : src.it i1 n h) (k : ∀ o, h.get? i1 = some o → h'.get? i1 = some o) : src.it i1 n h' := by
  cases src with
  | l a => exact st.at k
  | t a => exact st.at k
  | s z => obtain ⟨t, o, e, r⟩ := st; exact ⟨t, o, k o e, r⟩
section
variable {X : Cx}
theorem Src.draws {src : Src} {i1 : Addr} {i : Nat} {pins : List (Addr × Obj)} {σ : St} {H : Hp} {s : Shared} {xs : List V} (hh : X.A.handled = none) (I : Inv X pins σ H s) (ne : src.ne i1) (hq : src.has X.K H xs) (st : src.it i1 i s.heap) :
    ∃ (n : Nat) (P : Nat → Value → Prop) (St : Nat → Heap → Prop), Draws X.prog X.w X.A.in1 i1 (src.fp i1) n P St ∧ n = xs.length ∧ St i s.heap ∧ (∀ k h, St k h → src.it i1 k h) ∧ ∀ k u x, P k u → xs[k]? = some x → RelV x u := by
  have hh1 : X.A.in1.handled = none := hh
  cases src with
  | l a =>
    obtain ⟨its, rv, p, _⟩ := I.list hq
    refine ⟨_, _, _, Draws.list hh1 i1 a ne its.toArray, ?_, ⟨st, p.isList⟩, fun k h z => z.1, fun k u x hu hx => ?_⟩
    · rw [List.size_toArray, rv.length]
    · obtain ⟨u', hu', r⟩ := rv.get hx
      have : its[k]? = some u := by simpa using hu
      rw [hu'] at this
      cases this
      exact r
  | t a =>
    obtain ⟨its, rv, p, _⟩ := I.tuple hq
    refine ⟨_, _, _, Draws.tuple hh1 i1 a ne its.toArray, ?_, ⟨st, p⟩, fun k h z => z.1, fun k u x hu hx => ?_⟩
    · rw [List.size_toArray, rv.length]
    · obtain ⟨u', hu', r⟩ := rv.get hx
      have : its[k]? = some u := by simpa using hu
      rw [hu'] at this
      cases this
      exact r
  | s z =>
    obtain ⟨t, st⟩ := st
    refine ⟨_, _, _, Draws.text hh1 i1 z t, ?_, st, fun k h z => ⟨t, z⟩, fun k u x hu hx => ?_⟩
    · rw [show xs = _ from hq, List.length_map, Array.length_toList]
    · obtain ⟨c, tk, hc, rfl⟩ := hu
      rw [show xs = _ from hq, List.getElem?_map] at hx
      obtain ⟨c', hc', rfl⟩ := Option.map_eq_some_iff.mp hx
      have : z.cps[k]? = some c' := by simpa using hc'
      rw [this] at hc
      cases hc
      exact ⟨_, rfl⟩
theorem Src.inj {src : Src} {pins : List (Addr × Obj)} {σ : St} {H : Hp} {s : Shared} (I : Inv X pins σ H s) {xs ys : List V} (h : src.has X.K H xs) (h' : src.has X.K H ys) : xs = ys := by
  cases src with
  | l a => exact I.list_inj h h'
  | t a => exact I.tuple_inj h h'
  | s z => exact (show xs = _ from h).trans (show ys = _ from h').symm
end
def ItZ (K : PySem.W.Frag) (b : Bool) (s1 s2 : Src) : It :=
  ⟨fun i H => ∃ (xs ys : List V) (x y : V), s1.has K H xs ∧ s2.has K H ys ∧ xs[i]? = some x ∧ ys[i]? = some y,
    fun i H v H' => ∃ T x y, v = .ref T ∧ H T = none ∧ H' = upd H T (.tup [x, y]) ∧ (∀ xs, s1.has K H xs → xs[i]? = some x) ∧ ∀ ys, s2.has K H ys → ys[i]? = some y,
    fun i H => ∃ xs ys : List V, s1.has K H xs ∧ s2.has K H ys ∧ i ≤ xs.length ∧ i ≤ ys.length ∧ (i = xs.length ∨ i = ys.length) ∧ (b = true → i = xs.length ∧ i = ys.length)⟩
structure ZApart (z TI TO i1 i2 : Addr) (s1 s2 : Src) : Prop where
  S : ZipSep2 z TI TO i1 i2 (s1.fp i1) (s2.fp i2)
  n1 : s1.ne i1
  n2 : s2.ne i2
theorem turn_zipB {P : Program} {w : World} {K : PySem.W.Frag} (b : Bool) {elts : List Expr} {kk : Nat} {tpos : Pos} {s1 s2 : Src} {z TI TO i1 i2 : Addr} (D : ZApart z TI TO i1 i2 s1 s2) :
    Turn P w K (.Tuple elts kk tpos) (ItZ K b s1 s2) [z, TI, TO, i1, i2] z (fun i h => IsZipB b h z TI TO .none ∧ IsTupOf2 h TI (.ref i1) (.ref i2) ∧ (∃ x y, IsTupOf2 h TO x y) ∧ s1.it i1 i h ∧ s2.it i2 i h) where
  mem := by simp
  obj := fun i h st c hc => by
    obtain ⟨hz, hTI, ⟨x, y, hTO⟩, h1, h2⟩ := st
    have e' : c = z ∨ c = TI ∨ c = TO ∨ c = i1 ∨ c = i2 := by simpa using hc
    rcases e' with q | q | q | q | q
    · rw [q]; exact ⟨_, hz, fun v q => nomatch q⟩
    · rw [q]; exact ⟨_, hTI, fun v q => nomatch q⟩
    · rw [q]; exact ⟨_, hTO, fun v q => nomatch q⟩
    · rw [q]; exact Src.it_obj h1
    · rw [q]; exact Src.it_obj h2
  keep := fun i h h' st k => by
    obtain ⟨hz, hTI, ⟨x, y, hTO⟩, h1, h2⟩ := st
    exact ⟨k z (by simp) _ hz, k TI (by simp) _ hTI, ⟨x, y, k TO (by simp) _ hTO⟩, Src.it_keep h1 fun o q => k i1 (by simp) o q, Src.it_keep h2 fun o q => k i2 (by simp) o q⟩
  item := by
    intro X hP hw hK hc i pins s σ H E I hf st hg
    subst hP hw hK
    obtain ⟨hz, hTI, ⟨x0, y0, hTO⟩, h1, h2⟩ := st
    obtain ⟨xs, ys, x, y, hqx, hqy, hx, hy⟩ := hg
    obtain ⟨m1, P1, St1, D1, e1, t1, g1, v1⟩ := Src.draws (I.ok.hd hc) I D.n1 hqx h1
    obtain ⟨m2, P2, St2, D2, e2, t2, g2, v2⟩ := Src.draws (I.ok.hd hc) I D.n2 hqy h2
    have hzl : z < s.heap.objs.size := Heap.lt_size hz
    refine pyNext_zipB_item b D.S D1 D2 hz hTI hTO t1 t2 (by rw [e1]; exact (List.getElem?_eq_some_iff.mp hx).1) (by rw [e2]; exact (List.getElem?_eq_some_iff.mp hy).1) fun u u2 h' tk pu pu2 z' TO' h1' h2' hT hsz hk => ?_
    have ru := v1 i u x pu hx
    have ru2 := v2 i u2 y pu2 hy
    refine ⟨_, rfl, letOwnedTupleGo_zipB (s := { s with heap := h', toks := tk }) b z' fun h'' z'' sb => ?_⟩
    have hT2 : h''.get? s.heap.objs.size = some { cls := .type "tuple", data := .seq #[u, u2] } := (sb.2 _ (Nat.ne_of_gt hzl)).trans hT
    have new : ObjOk X.prog X.w (upd H s.heap.objs.size (.tup [x, y])) h'' s.heap.objs.size (.tup [x, y]) :=
      ⟨by show 2 ≤ sizeLine; decide, [u, u2], .cons ru (.cons ru2 .nil), ⟨_, hT2, rfl, _, rfl⟩⟩
    have I1 : Inv X pins σ (upd H s.heap.objs.size (.tup [x, y])) { s with heap := h'', toks := tk } :=
      I.turnedNew (t' := tk) (ch := [z, TI, TO, i1, i2]) (fun c o hb q => (sb.2 c (fun q' => hb (by simp [q']))).trans (hk c o (fun q' => hb (by simp [q'])) (fun q' => hb (by simp [q'])) (fun q' => hb (by simp [q'])) (fun q' => hb (by simp [q'])) q)) hf (Nat.le_refl _) new
    refine ⟨.ref s.heap.objs.size, _, I1, rfl, ⟨_, x, y, rfl, I.hok.fresh (Nat.le_refl _), rfl, fun l hl => by rw [Src.inj I hl hqx]; exact hx, fun l hl => by rw [Src.inj I hl hqy]; exact hy⟩, ⟨z'', ?_, ⟨u, u2, ?_⟩, ?_, ?_⟩, fun c hcm => ?_⟩
    · exact (sb.2 _ D.S.TIz).trans (hk _ _ D.S.TIz D.S.TITO D.S.TIi1 D.S.TIi2 hTI)
    · exact (sb.2 _ D.S.TOz).trans TO'
    · exact Src.it_keep (g1 _ _ h1') fun o q => (sb.2 _ D.S.zi1.symm).trans q
    · exact Src.it_keep (g2 _ _ h2') fun o q => (sb.2 _ D.S.zi2.symm).trans q
    · have hlt : c < s.heap.objs.size := by
        have e' : c = z ∨ c = TI ∨ c = TO ∨ c = i1 ∨ c = i2 := by simpa using hcm
        rcases e' with q | q | q | q | q
        · rw [q]; exact hzl
        · rw [q]; exact Heap.lt_size hTI
        · rw [q]; exact Heap.lt_size hTO
        · rw [q]; obtain ⟨_, e1, _⟩ := Src.it_obj h1; exact Heap.lt_size e1
        · rw [q]; obtain ⟨_, e2, _⟩ := Src.it_obj h2; exact Heap.lt_size e2
      rw [upd_ne (Nat.ne_of_lt hlt)]
      exact (hf c hcm).1
  done := by
    intro X hP hw hK hc i pins s σ H E I hf st hg
    subst hP hw hK
    obtain ⟨hz, hTI, ⟨x0, y0, hTO⟩, h1, h2⟩ := st
    obtain ⟨xs, ys, hqx, hqy, l1, l2, hend, hb⟩ := hg
    obtain ⟨m1, P1, St1, D1, e1, t1, g1, v1⟩ := Src.draws (I.ok.hd hc) I D.n1 hqx h1
    obtain ⟨m2, P2, St2, D2, e2, t2, g2, v2⟩ := Src.draws (I.ok.hd hc) I D.n2 hqy h2
    exact pyNext_zipB_end b (I.ok.hd hc) D.S D1 D2 hz hTI hTO t1 t2 (by rw [e1]; exact l1) (by rw [e2]; exact l2) (by rw [e1, e2]; exact hend) (by rw [e1, e2]; exact hb) fun h' tk hk => ⟨rfl, I.turnedL (t' := tk) (ch := [z, TI, TO, i1, i2]) (fun c o hb q =>
      hk c o (fun q' => hb (by simp [q'])) (fun q' => hb (by simp [q'])) (fun q' => hb (by simp [q'])) (fun q' => hb (by simp [q'])) q) hf⟩
  self := fun A i s Q E st h => pyIter_zipB b st.1 h
def SrcV (K : PySem.W.Frag) (H : Hp) (src : Src) (v : V) : Prop := match src with
  | .l a => v = .ref a ∧ ∃ xs, SqL K H a xs
  | .t a => v = .ref a ∧ ∃ xs, SqT K H a xs
  | .s z => v = .str z
theorem Src.begins {X : Cx} {src : Src} {pins : List (Addr × Obj)} {σ : St} {H : Hp} {s : Shared} {v : V} {u : Value} (I : Inv X pins σ H s) (hs : SrcV X.K H src v) (r : RelV v u) :
    ∃ (o : Obj) (Hh : Heap → Prop), Begins u o Hh ∧ Hh s.heap ∧ (∀ c, s.heap.objs.size ≤ c → src.ne c) ∧ ∀ (h : Heap) (i1 : Addr), h.get? i1 = some o → src.it i1 0 h := by
  cases src with
  | l a =>
    obtain ⟨rfl, xs, hq⟩ := hs
    cases r
    obtain ⟨its, rv, p, _⟩ := I.list hq
    exact ⟨_, _, begins_list a its.toArray, p.isList, fun c hc z => absurd p.lt (by rw [show a = c from z]; exact Nat.not_lt.mpr hc), fun h i1 e => ⟨_, e, rfl, rfl⟩⟩
  | t a =>
    obtain ⟨rfl, xs, hq⟩ := hs
    cases r
    obtain ⟨its, rv, p, _⟩ := I.tuple hq
    have p' : s.heap.IsTuple a its.toArray := p
    obtain ⟨o1, ho1, _⟩ := id p'
    have := Heap.lt_size ho1
    exact ⟨_, _, begins_tuple a its.toArray, p', fun c hc z => absurd this (by rw [show a = c from z]; exact Nat.not_lt.mpr hc), fun h i1 e => ⟨_, e, rfl, rfl⟩⟩
  | s z =>
    obtain rfl : v = .str z := hs
    obtain ⟨t, rfl⟩ := r
    exact ⟨_, _, begins_text z t, trivial, fun _ _ => trivial, fun h i1 e => ⟨t, _, e, rfl, rfl⟩⟩
theorem ane {a b : Nat} (h : a ≠ b) : @Ne Addr a b := h
theorem z_apart {src1 src2 : Src} {n : Nat} (h1 : ∀ c : Addr, n ≤ c → src1.ne c) (h2 : ∀ c : Addr, n ≤ c → src2.ne c) : ZApart (n + 4) (n + 2) (n + 3) n (n + 1) src1 src2 := by
  have k0 : ∀ k : Nat, n ≤ n + k := fun k => Nat.le_add_right _ _
  refine ⟨⟨ane (by omega), ane (by omega), ane (by omega), ane (by omega), Src.fp_mem, Src.fp_not (ane (by omega)) (h1 _ (k0 4)), Src.fp_not (ane (by omega)) (h1 _ (k0 3)), ane (by omega), Src.fp_mem, Src.fp_not (ane (by omega)) (h2 _ (k0 4)), Src.fp_not (ane (by omega)) (h2 _ (k0 3)), Src.fp_not (ane (by omega)) (h2 _ (k0 0)), Src.fp_not (ane (by omega)) (h1 _ (k0 1))⟩, h1 _ (k0 0), h2 _ (k0 1)⟩
def iZipB (K : PySem.W.Frag) (b : Bool) (ta : TA) : TI := fun σ H R => ta σ H fun vs H1 => ∃ s1 s2 v1 v2, vs = [v1, v2] ∧ SrcV K H1 s1 v1 ∧ SrcV K H1 s2 v2 ∧ R (ItZ K b s1 s2) H1
theorem fresh5 {X : Cx} {pins : List (Addr × Obj)} {σ : St} {H1 : Hp} {s1 : Shared} (I1 : Inv X pins σ H1 s1) : ∀ c, c ∈ [s1.heap.objs.size + 4, s1.heap.objs.size + 2, s1.heap.objs.size + 3, s1.heap.objs.size, s1.heap.objs.size + 1] → FpOk X pins H1 c := fun c hcm => by
  have e' : c = s1.heap.objs.size + 4 ∨ c = s1.heap.objs.size + 2 ∨ c = s1.heap.objs.size + 3 ∨ c = s1.heap.objs.size ∨ c = s1.heap.objs.size + 1 := by simpa using hcm
  have hle : s1.heap.objs.size ≤ c := by
    rcases e' with z | z | z | z | z
    · rw [z]; exact Nat.le_add_right _ _
    · rw [z]; exact Nat.le_add_right _ _
    · rw [z]; exact Nat.le_add_right _ _
    · rw [z]; exact Nat.le_refl _
    · rw [z]; exact Nat.le_add_right _ _
  exact I1.fpOk hle (I1.hok.fresh hle)
theorem pi_zipB {X : Cx} {e e2 : Expr} {ta : TA} {p pos tpos : Pos} {elts : List Expr} {kk : Nat} (hg : Gl X "zip") (hm : X.mg "zip" = none) (ha : PA X [e, e2] ta)
    (hs : starEach [e, e2] X.env = (false, eval e X.env) :: starEach [e2] X.env := by rfl) (hpl : (backTo pos (starEach [e2] X.env)).any (·.1) = false := by rfl) :
    PI X (.Tuple elts kk tpos) (.Call (.Name "zip" p) [e, e2] [] pos) (iZipB X.K false ta) := by
  refine ⟨fun pins s σ H R I h => ?_⟩
  refine Call_ (ld_blt I hg hm PyProof.Rows.boot_zip (PyProof.Rows.callWith_type1 (thn (ha.run pos pins s σ H _ I h) fun us s1 ⟨vs, H1, I1, r1, q1⟩ => ?_) hs hpl))
  obtain ⟨s1', s2', v1, v2, rfl, hs1, hs2, q⟩ := q1
  cases r1 with
  | cons r rr =>
    cases rr with
    | cons r' rr =>
      cases rr
      obtain ⟨o1, H1', B1, b1, n1, t1⟩ := Src.begins I1 hs1 r
      obtain ⟨o2, H2', B2, b2, n2, t2⟩ := Src.begins I1 hs2 r'
      refine zip_begins2 B1 B2 b1 b2 fun h' hz hTI hTO g1 g2 hsz hk => pyIter_zipB false hz ?_
      have I2 : Inv X pins σ H1 { s1 with heap := h' } := I1.kept (t' := s1.toks) hk
      exact ⟨_, _, _, _, H1, rfl, I2, turn_zipB false (z_apart n1 n2), ⟨hz, hTI, ⟨_, _, hTO⟩, t1 _ _ g1, t2 _ _ g2⟩, fresh5 I1, q⟩
theorem pi_zipS {X : Cx} {e e2 : Expr} {ta : TA} {p pos tpos kpos p3 : Pos} {elts : List Expr} {kk j3 : Nat} (hg : Gl X "zip") (hm : X.mg "zip" = none) (ha : PA X [e, e2] ta)
    (he : backTo pos (starEach [e, e2] X.env) = (false, eval e X.env) :: backTo pos (starEach [e2] X.env) := by rfl) (hpl : (backTo pos (starEach [e, e2] X.env)).any (·.1) = false := by rfl) :
    PI X (.Tuple elts kk tpos) (.Call (.Name "zip" p) [e, e2] [⟨some "strict", .Constant (.bool true) j3 p3, kpos⟩] pos) (iZipB X.K true ta) := by
  refine ⟨fun pins s σ H R I h => ?_⟩
  refine wpAny_Call_Name_kw (ld_blt I hg hm PyProof.Rows.boot_zip ?_)
  refine callWith_typeKw (thn (ha.run pos pins s σ H _ I h) fun us s1 ⟨vs, H1, I1, r1, q1⟩ => ?_) he hpl rfl rfl
  refine thn ((pk_cons (nm := some "strict") (kpos := kpos) (pe_bl (X := X) (b := true) (j := j3) (pos := p3)) pk_nil).run pos pins s1 σ H1 (fun zs H2 => zs = [.bl true] ∧ H2 = H1) I1 ⟨rfl, rfl⟩) fun ws s2 ⟨zs, H2, I2, r2, ez, eh⟩ => ?_
  subst ez
  subst eh
  cases r2 with
  | cons rb rr =>
    cases rr
    obtain rfl := rb
    obtain ⟨s1', s2', v1, v2, rfl, hs1, hs2, q⟩ := q1
    cases r1 with
    | cons r rr =>
      cases rr with
      | cons r' rr =>
        cases rr
        obtain ⟨o1, H1', B1, b1, n1, t1⟩ := Src.begins I2 hs1 r
        obtain ⟨o2, H2', B2, b2, n2, t2⟩ := Src.begins I2 hs2 r'
        refine zip_beginsS B1 B2 b1 b2 fun h' hz hTI hTO g1 g2 hsz hk => pyIter_zipB true hz ?_
        have I3 : Inv X pins σ H2 { s2 with heap := h' } := I2.kept (t' := s2.toks) hk
        exact ⟨_, _, _, _, H2, rfl, I3, turn_zipB true (z_apart n1 n2), ⟨hz, hTI, ⟨_, _, hTO⟩, t1 _ _ g1, t2 _ _ g2⟩, fresh5 I2, q⟩
end L2
namespace Ly
open PySem PySem.Spec PyProof.Rows L2
def zipItm (b : Bool) (t u : Itm) : Option Itm := if b && !decide (t.items.length = u.items.length) then none else some ⟨paired t.items u.items, fun M => t.chk M ∧ u.chk M⟩
def zipF (b : Bool) (ds : List D) (M : Mem) : Res Itm := match ds with
  | [x, y] => (match itemsOf x M, itemsOf y M with
    | some t, some u => (match zipItm b t u with
      | some r => .ok r M
      | none => .bad)
    | _, _ => .bad)
  | _ => .bad
section
variable {K : PySem.W.Frag} {L : Wd} {H : Hp} {M : Mem} {t u : Itm} {v : V}
theorem sq3_src (h : Sq3 K L H t v) : ∃ src, SrcV K H src v ∧ ∀ L' H' M', Mv L H L' H' → MemIs K L' H' M' → t.chk M' → ∃ vs, src.has K H' vs ∧ IsL K L' H' t.items vs := by
  cases h with
  | lst ex go => exact ⟨.l _, ⟨rfl, ex⟩, go⟩
  | tup ex go => exact ⟨.t _, ⟨rfl, ex⟩, go⟩
  | @str z es =>
    refine ⟨.s z, rfl, fun L' H' M' mv m c => ⟨_, rfl, ?_⟩⟩
    rw [es]
    generalize z.cps.toList = l
    induction l with
    | nil => exact .nil
    | cons c l ih => exact .cons (.str _) ih
theorem it_zipB {b : Bool} {s1 s2 : Src} {r : Itm} (hr : zipItm b t u = some r) (h1 : ∀ L' H' M', Mv L H L' H' → MemIs K L' H' M' → t.chk M' → ∃ vs, s1.has K H' vs ∧ IsL K L' H' t.items vs)
    (h2 : ∀ L' H' M', Mv L H L' H' → MemIs K L' H' M' → u.chk M' → ∃ vs, s2.has K H' vs ∧ IsL K L' H' u.items vs) : ItIs K L H r (ItZ K b s1 s2) := fun L' H' M' mv m c i => by
  unfold zipItm at hr
  split at hr
  · cases hr
  · next hb =>
    cases hr
    obtain ⟨vs, q, r⟩ := h1 L' H' M' mv m c.1
    obtain ⟨ws, q', r'⟩ := h2 L' H' M' mv m c.2
    refine ⟨fun d e => ?_, fun hl => ⟨vs, ws, q, q', ?_⟩⟩
    · obtain ⟨x, y, e0, e0', rfl⟩ := paired_at e
      obtain ⟨v, e1, r1⟩ := r.get e0
      obtain ⟨w, e2, r2⟩ := r'.get e0'
      refine ⟨⟨vs, ws, v, w, q, q', e1, e2⟩, fun z H'' y => ?_⟩
      obtain ⟨T, v', w', rfl, hT, rfl, y1, y2⟩ := y
      have z1 := y1 vs q
      have z2 := y2 ws q'
      rw [e1] at z1
      rw [e2] at z2
      cases z1
      cases z2
      have st := Step.new (o := .tup [v, w]) m hT
      exact ⟨st.1, m.new hT, .tup upd_same st.2 (.cons (r1.step st.1) (.cons (r2.step st.1) .nil))⟩
    · have hl : (paired t.items u.items).length = i := hl
      unfold paired at hl
      rw [List.length_map, List.length_zip, r.length, r'.length] at hl
      refine ⟨by omega, by omega, by omega, fun hb' => ?_⟩
      subst hb'
      have : t.items.length = u.items.length := by simpa using hb
      rw [r.length, r'.length] at this
      omega
end
section
variable {G : Gd} {k : Nat} {E : XK} {N : List Str} {sc : Scope} {X : Cx} {a b : Expr} {mr : MA} {pos p tpos kpos p3 : Pos}
theorem zip_sim {bb : Bool} {σ : L2.St} {H : Hp} {R : It → Hp → Prop} (h : tID G.K E (mRng (zipF bb) mr) σ H R) : iZipB G.K bb (tAD G.K E mr) σ H R := by
  obtain ⟨env, L, M, he, hm, h⟩ := h
  refine ⟨env, L, M, he, hm, Fin.imp (Fin.bind h) fun vs H1 ⟨ds, M1, L1, s1, m1, r1, h1⟩ => ?_⟩
  unfold zipF at h1
  split at h1
  · obtain ⟨v, w, rfl, q1, q2⟩ := two_inv r1
    split at h1
    · next t u ht hu =>
      split at h1
      · next r hr =>
        obtain ⟨src1, sv1, g1⟩ := sq3_src (itemsOf_ok m1 q1 ht)
        obtain ⟨src2, sv2, g2⟩ := sq3_src (itemsOf_ok m1 q2 hu)
        exact ⟨src1, src2, v, w, rfl, sv1, sv2, h1.end_ m1 (it_zipB hr g1 g2)⟩
      · exact h1.elim
    · exact h1.elim
  · exact h1.elim
theorem ci_zipB {elts : List Expr} {kk : Nat} (c : Cq G k E N sc X) (hg : GlS sc "zip") (hm : G.mg "zip" = none) (ha : PA X [a, b] (tAD G.K E mr)) (hs : starEach [a, b] X.env = (false, eval a X.env) :: starEach [b] X.env := by rfl) (hpl : (backTo pos (starEach [b] X.env)).any (·.1) = false := by rfl) :
    PI X (.Tuple elts kk tpos) (.Call (.Name "zip" p) [a, b] [] pos) (tID G.K E (mRng (zipF false) mr)) := by
  obtain rfl := c.g
  exact (pi_zipB (c.gl hg) hm ha hs hpl).imp fun σ H R h => zip_sim h
theorem ci_zipS {elts : List Expr} {kk j3 : Nat} (c : Cq G k E N sc X) (hg : GlS sc "zip") (hm : G.mg "zip" = none) (ha : PA X [a, b] (tAD G.K E mr)) (he : backTo pos (starEach [a, b] X.env) = (false, eval a X.env) :: backTo pos (starEach [b] X.env) := by rfl) (hpl : (backTo pos (starEach [a, b] X.env)).any (·.1) = false := by rfl) :
    PI X (.Tuple elts kk tpos) (.Call (.Name "zip" p) [a, b] [⟨some "strict", .Constant (.bool true) j3 p3, kpos⟩] pos) (tID G.K E (mRng (zipF true) mr)) := by
  obtain rfl := c.g
  exact (pi_zipS (c.gl hg) hm ha he hpl).imp fun σ H R h => zip_sim h
theorem go_zipS {M : Mem} {Q : Itm → Mem → Prop} {x y : D} {t u : Itm} (ht : itemsOf x M = some t) (hu : itemsOf y M = some u) : Go (zipF true [x, y] M) Q = (t.items.length = u.items.length ∧ Q ⟨paired t.items u.items, fun M => t.chk M ∧ u.chk M⟩ M) := by
  by_cases h : t.items.length = u.items.length
  · have e : zipF true [x, y] M = .ok ⟨paired t.items u.items, fun M => t.chk M ∧ u.chk M⟩ M := by
      unfold zipF
      simp only [ht, hu, zipItm, h, decide_true, Bool.not_true, Bool.and_false, Bool.false_eq_true, if_false]
    rw [e]
    exact propext ⟨fun q => ⟨h, q⟩, fun q => q.2⟩
  · have e : zipF true [x, y] M = .bad := by
      unfold zipF
      simp only [ht, hu, zipItm, h, decide_false, Bool.not_false, Bool.and_true, if_true]
    rw [e]
    exact propext ⟨fun q => q.elim, fun q => (h q.1).elim⟩
theorem go_zipP {M : Mem} {Q : Itm → Mem → Prop} {x y : D} {t u : Itm} (ht : itemsOf x M = some t) (hu : itemsOf y M = some u) : Go (zipF false [x, y] M) Q = Q ⟨paired t.items u.items, fun M => t.chk M ∧ u.chk M⟩ M := by
  have e : zipF false [x, y] M = .ok ⟨paired t.items u.items, fun M => t.chk M ∧ u.chk M⟩ M := by
    unfold zipF
    simp only [ht, hu, zipItm, Bool.false_and, Bool.false_eq_true, if_false]
  rw [e]
  rfl
end
end Ly
namespace Ly
open PySem PySem.Spec PyProof.Rows L2
section
variable {G : Gd} {k : Nat} {E : XK} {N : List Str} {sc : Scope} {X : Cx} {a b e : Expr} {ma mb : ME} {pos : Pos}
open Classical in
noncomputable def compL2 (g : GD) (t : MT) (mi1 : MI) (g1 : GD) (t1 : MT) (el : ME) (vs1 : List Nat) (chk : Mem → Prop) (env : Ly.Env) : List D → List D → Mem → Res (List D)
  | [], acc, M => if chk M then .ok acc M else .bad
  | d :: ds, acc, M => if chk M then (match g.f d env with
      | some env' => (noX (t env' M)).bind fun c M1 => if c then (noX (mi1 env' M1)).bind fun it1 M2 => (compL g1 t1 el it1.chk (wipeD env' vs1) it1.items acc M2).bind fun acc' M3 => compL2 g t mi1 g1 t1 el vs1 chk env ds acc' M3 else compL2 g t mi1 g1 t1 el vs1 chk env ds acc M1
      | none => .bad) else .bad
noncomputable def mLc2 (mi : MI) (g : GD) (t : MT) (mi1 : MI) (g1 : GD) (t1 : MT) (el : ME) (vs vs1 : List Nat) : ME := fun env M => (mi env M).bind fun it M1 => (compL2 g t mi1 g1 t1 el vs1 it.chk (wipeD env vs) it.items [] M1).bind fun ds M2 => .ok (.lst ds) M2
end
theorem go_lc2 {Q : D → Mem → Prop} {env : Ly.Env} {M : Mem} {mi mi1 : MI} {g g1 : GD} {t t1 : MT} {el : ME} {vs vs1 : List Nat} : Go (mLc2 mi g t mi1 g1 t1 el vs vs1 env M) Q = Go (mi env M) fun it M1 => Go (compL2 g t mi1 g1 t1 el vs1 it.chk (wipeD env vs) it.items [] M1) fun ds M2 => Q (.lst ds) M2 := by
  unfold mLc2
  rw [go_bind]
  congr 1
  funext it M1
  rw [go_bind]
  rfl
section
variable {G : Gd} {k : Nat} {E : XK} {N : List Str} {sc : Scope} {X : Cx} {e : Expr} {es : List Expr} {mr : MA} {pos p : Pos} {kp : Bool}
end
end Ly
namespace L2
open PySem PySem.Spec PyProof.Rows
theorem PG.or {X : Cx} {e : Expr} {t t' : TG} (h : PG X e t) (h' : PG X e t') : PG X e (fun v σ H Q => t v σ H Q ∨ t' v σ H Q) := ⟨fun pins s σ H v u Q I r q => q.elim (fun q => h.run pins s σ H v u Q I r q) fun q => h'.run pins s σ H v u Q I r q⟩
end L2
namespace Ly
open PySem PySem.Spec PyProof.Rows L2
section
variable {G : Gd} {k : Nat} {E : XK} {N : List Str} {sc : Scope} {X : Cx} {es : List Expr} {gs : List GD} {pos : Pos}
end
section
variable {G : Gd} {k : Nat} {N ps ks : List Str} {sc : Scope} {x qual : Str} {params : Arguments} {body : List Stmt} {kws : List (Str × V)} {fd : FuncData} {m : MS}
end
theorem go_callW {Q : D → Mem → Prop} {n : Nat} {gD : List D → List D} {f : MF} {r : MA} {env : Ly.Env} {M : Mem} : Go (mCallW n gD f r env M) Q = Go (r env M) fun ds M1 => ds.length = n ∧ Go (f (gD ds) M1) Q := by
  unfold mCallW
  rw [go_bind]
  congr 1
  funext d M1
  rw [go_ite]
  simp [Go]
theorem go_par3 {i j l : Nat} {env : Ly.Env} {M : Mem} {mr : MA} {S : Ly.Env → Mem → Prop} {R : D → Mem → Prop} : GoS (mPar3 i j l mr env M) S R = Go (mr env M) fun ds M1 => ∃ a b c, ds = [a, b, c] ∧ S (((env.set i (some a)).set j (some b)).set l (some c)) M1 := by
  unfold mPar3
  rw [go_bindS]
  congr 1
  funext ds M1
  match ds with
  | [] => simp [GoS]
  | [a] => simp [GoS]
  | [a, b] => simp [GoS]
  | [a, b, c] => exact propext ⟨fun h => ⟨a, b, c, rfl, h⟩, fun ⟨_, _, _, e, h⟩ => by cases e; exact h⟩
  | a :: b :: c :: d :: r => simp [GoS]
end Ly
namespace Ly
open PySem PySem.Spec PyProof.Rows L2
section
variable {G : Gd} {k : Nat} {E : XK} {N : List Str} {sc : Scope} {X : Cx} {e tg : Expr} {pos : Pos} {ma : ME} {g : GD} {ts vs : List Expr} {kt k2 : Nat} {pt pt2 : Pos}
end
end Ly
namespace Ly
open PySem PySem.Spec PyProof.Rows L2
def Rp (e n : Nat) (d : D) : Prop := ∃ p, pdOf d = some p ∧ p.showable = true ∧ p.depth ≤ e ∧ p.leavesShort 60 = true ∧ p.weight ≤ n
def RpL (e n : Nat) (ds : List D) : Prop := ∃ ps, pdAll ds = some ps ∧ PyData.showableAll ps = true ∧ PyData.depthAll ps ≤ e ∧ PyData.leavesShortAll 60 ps = true ∧ PyData.weightAll ps ≤ n
theorem Rp.mono {e n e' n' : Nat} {d : D} (h : Rp e n d) (he : e ≤ e') (hn : n ≤ n') : Rp e' n' d := by
  obtain ⟨p, a, b, c, f, g⟩ := h
  exact ⟨p, a, b, Nat.le_trans c he, f, Nat.le_trans g hn⟩
theorem RpL.mono {e n e' n' : Nat} {d : List D} (h : RpL e n d) (he : e ≤ e') (hn : n ≤ n') : RpL e' n' d := by
  obtain ⟨p, a, b, c, f, g⟩ := h
  exact ⟨p, a, b, Nat.le_trans c he, f, Nat.le_trans g hn⟩
theorem shown_int60 {i : Int} (h : i.natAbs < 10 ^ 59) : (PyData.shown (.int i)).length ≤ 60 := by
  have e := int_text_length_le10 (k := 59) (by decide) h
  show (Str.ofString (toString i)).length ≤ 60
  rw [PySem.ofString_length]
  exact e
theorem rp_int {i : Int} (h : i.natAbs < 10 ^ 59) : Rp 0 200 (.int i) := by
  have lg : i.natAbs.log2 ≤ 198 := by
    by_cases z : i.natAbs = 0
    · rw [z]
      decide
    · exact Nat.le_of_lt ((Nat.log2_lt z).mpr (Nat.lt_of_lt_of_le h (by decide)))
  refine ⟨_, rfl, decide_eq_true (by omega), Nat.le_refl _, decide_eq_true (shown_int60 h), ?_⟩
  show (if (i == 0) = true then 0 else i.natAbs.log2 + 1) ≤ 200
  split <;> omega
theorem rp_str {n : Nat} {x : Str} (h : Nm n x) : Rp 0 n (.str x) := by
  refine ⟨_, rfl, rfl, Nat.le_refl _, ?_, h.1⟩
  show (x.cps.toList.all fun c => decide (c < 16 ^ 8)) = true
  rw [List.all_eq_true]
  intro c hc
  have := h.2 c hc
  exact decide_eq_true (by omega)
section
variable {α : Type} (f : α → D)
def kv (T : List (Str × α)) : List (Key × D) := T.map fun p => (.inr p.1, f p.2)
def look (T : List (Str × α)) (x : Str) : Option α := (T.find? fun p => decide (p.1 = x)).map (·.2)
variable {f}
end
section
variable {M : Mem} {Q : D → Mem → Prop} {n : Nat} {kvs : List (Key × D)} {x : Str} {v : D}
end
end Ly
namespace Ly
open PySem PySem.Spec PyProof.Rows L2 PpSet
section
variable {X : Cx}
end
end Ly
namespace Ly
open PySem PySem.Spec PyProof.Rows L2
section
variable {G : Gd} {k : Nat} {E : XK} {N : List Str} {sc : Scope} {X : Cx} {pos p : Pos}
end
end Ly
namespace Ly
open PySem PySem.Spec PyProof.Rows L2
section
variable {K : PySem.W.Frag} {L : Wd} {H : Hp}
end
section
variable {G : Gd} {k : Nat} {E : XK} {N : List Str} {sc : Scope} {X : Cx} {pos : Pos}
end
end Ly
namespace Ly
open PySem PySem.Spec PyProof.Rows L2
def met (xs : List Str) : Nat → List Str
  | 0 => []
  | i + 1 => if xs.getD i Str.empty ∈ met xs i then met xs i else met xs i ++ [xs.getD i Str.empty]
section
variable {prog : Program} {w : World} {A : Around} {R : Result → Shared → Prop} {I : Addr} {fp wr : List Addr} {G : Array GenState → Array GenState → Prop} {n : Nat} {P : Nat → Value → Prop} {St : Nat → Shared → Prop}
end
section
variable {prog : Program} {w : World} {A : Around} {E : Value → Shared → Prop} {s : Shared}
end
section
variable {G : Gd} {k : Nat} {E : XK} {N : List Str} {sc : Scope} {X : Cx} {pos p p2 q : Pos} {a : Expr} {ma : ME}
end
end Ly
namespace Ly
open PySem PySem.Spec PyProof.Rows L2
def opIsB (d e : D) (M : Mem) : Res D := match d, e with
  | .bl a, .bl b => .ok (.bl (decide (a = b))) M
  | _, _ => .bad
section
variable {G : Gd} {k : Nat} {E : XK} {N : List Str} {sc : Scope} {X : Cx} {a b d e o : Expr} {ma mb mc mo : ME} {pos p apos cpos : Pos} {ss : List Stmt}
theorem css_bad : PSs X ss (sD G.K E mBadS) := ⟨fun _ _ _ _ _ _ ⟨_, _, _, _, _, h⟩ => h.elim⟩
theorem go_isB {M : Mem} {x y : Bool} {Q : D → Mem → Prop} : Go (opIsB (.bl x) (.bl y) M) Q = Q (.bl (decide (x = y))) M := id rfl
end
end Ly
namespace Ly
open PySem PySem.Spec PyProof.Rows L2
section
variable {G : Gd} {k : Nat} {E : XK} {N : List Str} {sc : Scope} {X : Cx} {a b : Expr} {ma mb : ME} {pos : Pos}
end
end Ly
namespace Ly
open PySem PySem.Spec PyProof.Rows L2
section
variable {G : Gd} {k : Nat} {E : XK} {N : List Str} {sc : Scope} {X : Cx} {a b : Expr} {ma mb : ME} {pos : Pos}
end
end Ly
namespace Ly
open PySem PySem.Spec PyProof.Rows L2
mutual
inductive RdS (h : Heap) : Value → PyData → Prop
  | none : RdS h .none .none
  | bool (b : Bool) : RdS h (.bool b) (.bool b)
  | int (i : Int) (t : Tok) : RdS h (.int i t) (.int i)
  | str (x : Str) (t : Tok) : RdS h (.str x t) (.str x)
  | list {a : Addr} {o : Obj} {vs : Array Value} {n : Nat} {xs : List PyData} : h.get? a = some o → o.cls = .type "list" → o.data = .seq vs n → RdSA h vs.toList xs → RdS h (.ref a) (.list xs)
  | tuple {a : Addr} {o : Obj} {vs : Array Value} {n : Nat} {xs : List PyData} : h.get? a = some o → o.cls = .type "tuple" → o.data = .seq vs n → RdSA h vs.toList xs → RdS h (.ref a) (.tuple xs)
  | dict {a : Addr} {o : Obj} {es : Array DictEntry} {n : Nat} {kvs : List (PyData × PyData)} : h.get? a = some o → o.cls = .type "dict" → o.data = .dict es n → (a == sysModules) = false → RdSA h (es.toList.map (·.key)) (kvs.map (·.1)) → RdSA h (es.toList.map (·.val)) (kvs.map (·.2)) → RdS h (.ref a) (.dict kvs)
inductive RdSA (h : Heap) : List Value → List PyData → Prop
  | nil : RdSA h [] []
  | cons {v : Value} {vs : List Value} {d : PyData} {ds : List PyData} : RdS h v d → RdSA h vs ds → RdSA h (v :: vs) (d :: ds)
end
section
variable {prog : Program} {w : World} {h₀ : Heap}
mutual
theorem RdS.reads : ∀ {v : Value} {d : PyData}, RdS h₀ v d → ∃ as, Reads h₀ v d as
  | _, _, .none => ⟨_, .none⟩
  | _, _, .bool b => ⟨_, .bool b⟩
  | _, _, .int i t => ⟨_, .int i t⟩
  | _, _, .str x t => ⟨_, .str x t⟩
  | _, _, .list h1 h2 h3 h4 => let ⟨_, r⟩ := RdSA.reads h4; ⟨_, .list h1 h2 h3 r⟩
  | _, _, .tuple h1 h2 h3 h4 => let ⟨_, r⟩ := RdSA.reads h4; ⟨_, .tuple h1 h2 h3 r⟩
  | _, _, .dict h1 h2 h3 _ h4 h5 => let ⟨_, r⟩ := RdSA.reads h4; let ⟨_, r'⟩ := RdSA.reads h5; ⟨_, .dict h1 h2 h3 r r'⟩
theorem RdSA.reads : ∀ {vs : List Value} {ds : List PyData}, RdSA h₀ vs ds → ∃ as, ReadsAll h₀ vs ds as
  | _, _, .nil => ⟨_, .nil⟩
  | _, _, .cons a b => let ⟨_, r⟩ := RdS.reads a; let ⟨_, r'⟩ := RdSA.reads b; ⟨_, .cons r r'⟩
end
mutual
theorem RdS.reprK : ∀ {v : Value} {d : PyData}, RdS h₀ v d → d.showable = true → d.shown.length ≤ sizeLine → ∃ bs, ReadAtMost h₀ d.depth bs ∧ ReprK prog w bs h₀ d.depth v d.shown
  | _, _, .none, _, _ => ⟨[], (fun _ h => nomatch h), by simp only [PyData.shown]; exact .of_is ReprIs.none _ _ _⟩
  | _, _, .bool b, _, _ => ⟨[], (fun _ h => nomatch h), by simp only [PyData.shown]; exact .of_is (ReprIs.bool b) _ _ _⟩
  | _, _, .int i t, hs, _ => ⟨[], (fun _ h => nomatch h), by simp only [PyData.shown]; exact .of_is (ReprIs.int t (by simpa [PyData.showable] using hs)) _ _ _⟩
  | _, _, .str x t, _, hz => ⟨[], (fun _ h => nomatch h), by simp only [PyData.shown]; exact .of_is (ReprIs.str x t (by simpa only [PyData.shown] using hz)) _ _ _⟩
  | _, _, .list (a := a) (vs := vs) (xs := xs) h1 h2 h3 h4, hs, hz => by
    have hz' : (listText (PyData.shownAll xs)).length ≤ sizeLine := by simpa only [PyData.shown] using hz
    obtain ⟨bs, hb, hk⟩ := RdSA.reprK h4 (by simpa [PyData.showable] using hs) (fun t ht => Nat.le_trans (listText_mem_le ht) hz')
    obtain ⟨_, r4⟩ := RdSA.reads h4
    have r : Reads h₀ (.ref a) (.list xs) _ := .list h1 h2 h3 r4
    have hna : a ∉ bs := not_mem_of_deeper r (by simp only [PyData.depth]; omega) hb
    refine ⟨a :: bs, ReadAtMost.cons r (by simp only [PyData.depth]; omega) hb, ?_⟩
    simp only [PyData.depth, PyData.shown]
    obtain ⟨l⟩ := vs
    cases l with
    | nil =>
      have h4' : RdSA h₀ [] xs := h4
      cases h4'
      simp only [PyData.shownAll, listText_nil]
      exact ReprK.listEmpty h1 h2 h3
    | cons x l => exact ReprK.list h1 h2 h3 hna (by simpa using hk.length_eq) (fun i y e => hk.item i y (by simpa using e))
  | _, _, .tuple (a := a) (xs := xs) h1 h2 h3 h4, hs, hz => by
    have hz' : (tupleText (PyData.shownAll xs)).length ≤ sizeLine := by simpa only [PyData.shown] using hz
    obtain ⟨bs, hb, hk⟩ := RdSA.reprK h4 (by simpa [PyData.showable] using hs) (fun t ht => Nat.le_trans (tupleText_mem_le ht) hz')
    obtain ⟨_, r4⟩ := RdSA.reads h4
    have r : Reads h₀ (.ref a) (.tuple xs) _ := .tuple h1 h2 h3 r4
    have hna : a ∉ bs := not_mem_of_deeper r (by simp only [PyData.depth]; omega) hb
    refine ⟨a :: bs, ReadAtMost.cons r (by simp only [PyData.depth]; omega) hb, ?_⟩
    simp only [PyData.depth, PyData.shown]
    exact ReprK.tuple h1 h2 h3 hna hk
  | _, _, .dict (a := a) (es := es) (kvs := kvs) h1 h2 h3 hsys h4 h5, hs, hz => by
    have hz' : (dictText (PyData.shownKv kvs)).length ≤ sizeLine := by simpa only [PyData.shown] using hz
    obtain ⟨hs1, hs2⟩ := PyData.showableKv_split kvs (by simpa [PyData.showable] using hs)
    obtain ⟨b1, hb1, k1⟩ := RdSA.reprK h4 hs1 (fun t ht => let ⟨p, hp, hl⟩ := PyData.shownKv_key_le kvs t ht; Nat.le_trans hl (Nat.le_trans (dictText_mem_le hp) hz'))
    obtain ⟨b2, hb2, k2⟩ := RdSA.reprK h5 hs2 (fun t ht => let ⟨p, hp, hl⟩ := PyData.shownKv_val_le kvs t ht; Nat.le_trans hl (Nat.le_trans (dictText_mem_le hp) hz'))
    obtain ⟨_, r4⟩ := RdSA.reads h4
    obtain ⟨_, r5⟩ := RdSA.reads h5
    have r : Reads h₀ (.ref a) (.dict kvs) _ := .dict h1 h2 h3 r4 r5
    have hb : ReadAtMost h₀ (PyData.depthKv kvs) (b1 ++ b2) := (hb1.mono (PyData.depthAll_keys_le kvs)).append (hb2.mono (PyData.depthAll_vals_le kvs))
    have hna : a ∉ b1 ++ b2 := not_mem_of_deeper r (by simp only [PyData.depth]; omega) hb
    refine ⟨a :: (b1 ++ b2), ReadAtMost.cons r (by simp only [PyData.depth]; omega) hb, ?_⟩
    simp only [PyData.depth, PyData.shown, PyData.shownKv_eq]
    exact ReprK.dict h1 h2 h3 hsys hna (ReprEntriesK.of_two es.toList _ _
      (k1.more_le (fun b hb => List.mem_append_left _ hb) (PyData.depthAll_keys_le kvs)) (k2.more_le (fun b hb => List.mem_append_right _ hb) (PyData.depthAll_vals_le kvs)))
theorem RdSA.reprK : ∀ {vs : List Value} {ds : List PyData}, RdSA h₀ vs ds → PyData.showableAll ds = true → (∀ t ∈ PyData.shownAll ds, t.length ≤ sizeLine) →
    ∃ bs, ReadAtMost h₀ (PyData.depthAll ds) bs ∧ ReprAllK prog w bs h₀ (PyData.depthAll ds) vs (PyData.shownAll ds)
  | _, _, .nil, _, _ => ⟨[], (fun _ h => nomatch h), by simp only [PyData.shownAll]; exact .nil⟩
  | _, _, .cons (d := d) (ds := ds) r rs, hs, hz => by
    have hs' : d.showable = true ∧ PyData.showableAll ds = true := by simpa [PyData.showableAll] using hs
    obtain ⟨b1, hb1, k1⟩ := RdS.reprK r hs'.1 (hz _ (by simp only [PyData.shownAll]; exact List.mem_cons_self ..))
    obtain ⟨b2, hb2, k2⟩ := RdSA.reprK rs hs'.2 (fun t ht => hz t (by simp only [PyData.shownAll]; exact List.mem_cons_of_mem _ ht))
    refine ⟨b1 ++ b2, ?_, ?_⟩
    · intro b hm
      simp only [PyData.depthAll]
      rcases List.mem_append.mp hm with hm | hm
      · obtain ⟨d', as', r', hd'⟩ := hb1 b hm
        exact ⟨d', as', r', Nat.le_trans hd' (Nat.le_max_left _ _)⟩
      · obtain ⟨d', as', r', hd'⟩ := hb2 b hm
        exact ⟨d', as', r', Nat.le_trans hd' (Nat.le_max_right _ _)⟩
    · simp only [PyData.depthAll, PyData.shownAll]
      exact .cons ((k1.more fun b hb => List.mem_append_left _ hb).level_le (Nat.le_max_left _ _)) (k2.more_le (fun b hb => List.mem_append_right _ hb) (Nat.le_max_right _ _))
end
theorem showsBy_rdS {a : Addr} {d : PyData} (r : RdS h₀ (.ref a) d) (hs : d.showable = true) (hsz : d.shown.length ≤ sizeLine) : ∃ T idr, ShowsBy prog w h₀ a d T idr := by
  cases r with
  | list h1 h2 h3 h4 =>
    rename_i o vs n xs
    have hz' : (listText (PyData.shownAll xs)).length ≤ sizeLine := by simpa only [PyData.shown] using hsz
    obtain ⟨bs, hb, hk⟩ := RdSA.reprK (prog := prog) (w := w) h4 (by simpa [PyData.showable] using hs) (fun t ht => Nat.le_trans (listText_mem_le ht) hz')
    obtain ⟨_, r4⟩ := RdSA.reads h4
    have hna : a ∉ bs := not_mem_of_deeper (.list h1 h2 h3 r4) (by simp only [PyData.depth]; omega) hb
    refine ⟨"list", "list.__repr__", F.slot_list_repr.toG, F.slot_list_str, F.slot_list_format, fun s hk0 => ⟨o, hk0 _ _ h1, h2⟩, fun A E s Q hg hu hk0 hQ => ?_⟩
    simp only [PyData.depth] at hu
    simp only [PyData.shown] at hQ
    obtain ⟨l⟩ := vs
    cases l with
    | nil =>
      have h4' : RdSA h₀ [] xs := h4
      cases h4'
      simp only [PyData.shownAll, listText_nil] at hQ
      exact call_list_repr_empty ⟨o, hk0 _ _ h1, h2⟩ (hk0 _ _ h1) h3 (hQ s.heap _ _ fun _ _ e => e)
    | cons x l =>
      exact call_list_reprK h1 h2 h3 hna (by simpa using hk.length_eq) (fun i y e => hk.item i y (by simpa using e)) hg (fun b _ => Clear.nil b) hu hk0 hQ hz'
  | tuple h1 h2 h3 h4 =>
    rename_i o vs n xs
    have hz' : (tupleText (PyData.shownAll xs)).length ≤ sizeLine := by simpa only [PyData.shown] using hsz
    obtain ⟨bs, hb, hk⟩ := RdSA.reprK (prog := prog) (w := w) h4 (by simpa [PyData.showable] using hs) (fun t ht => Nat.le_trans (tupleText_mem_le ht) hz')
    obtain ⟨_, r4⟩ := RdSA.reads h4
    have hna : a ∉ bs := not_mem_of_deeper (.tuple h1 h2 h3 r4) (by simp only [PyData.depth]; omega) hb
    refine ⟨"tuple", "tuple.__repr__", F.slot_tuple_repr, F.slot_tuple_str, F.slot_tuple_format, fun s hk0 => ⟨o, hk0 _ _ h1, h2⟩, fun A E s Q hg hu hk0 hQ => ?_⟩
    simp only [PyData.depth] at hu
    simp only [PyData.shown] at hQ
    exact call_tuple_reprK h1 h2 h3 hna hk hg (fun b _ => Clear.nil b) hu hk0 hQ hz'
  | dict h1 h2 h3 hsys h4 h5 =>
    rename_i o es n kvs
    have hz' : (dictText (PyData.shownKv kvs)).length ≤ sizeLine := by simpa only [PyData.shown] using hsz
    obtain ⟨hs1, hs2⟩ := PyData.showableKv_split kvs (by simpa [PyData.showable] using hs)
    obtain ⟨b1, hb1, k1⟩ := RdSA.reprK (prog := prog) (w := w) h4 hs1 (fun t ht => let ⟨p, hp, hl⟩ := PyData.shownKv_key_le kvs t ht; Nat.le_trans hl (Nat.le_trans (dictText_mem_le hp) hz'))
    obtain ⟨b2, hb2, k2⟩ := RdSA.reprK (prog := prog) (w := w) h5 hs2 (fun t ht => let ⟨p, hp, hl⟩ := PyData.shownKv_val_le kvs t ht; Nat.le_trans hl (Nat.le_trans (dictText_mem_le hp) hz'))
    have hb : ReadAtMost h₀ (PyData.depthKv kvs) (b1 ++ b2) := (hb1.mono (PyData.depthAll_keys_le kvs)).append (hb2.mono (PyData.depthAll_vals_le kvs))
    obtain ⟨_, r4⟩ := RdSA.reads h4
    obtain ⟨_, r5⟩ := RdSA.reads h5
    have hna : a ∉ b1 ++ b2 := not_mem_of_deeper (.dict h1 h2 h3 r4 r5) (by simp only [PyData.depth]; omega) hb
    refine ⟨"dict", "dict.__repr__", F.slot_dict_repr, F.slot_dict_str, F.slot_dict_format, fun s hk0 => ⟨o, hk0 _ _ h1, h2⟩, fun A E s Q hg hu hk0 hQ => ?_⟩
    simp only [PyData.depth] at hu
    simp only [PyData.shown, PyData.shownKv_eq] at hQ
    exact call_dict_reprK h1 h2 h3 hsys hna (ReprEntriesK.of_two es.toList _ _
      (k1.more_le (fun b hb => List.mem_append_left _ hb) (PyData.depthAll_keys_le kvs)) (k2.more_le (fun b hb => List.mem_append_right _ hb) (PyData.depthAll_vals_le kvs))) hg (fun b _ => Clear.nil b) hu hk0 hQ (by rw [← PyData.shownKv_eq]; exact hz')
theorem repr_rdS {A : Around} {E : Value → Shared → Prop} {s : Shared} {Q : Value → Shared → Prop} {a : Addr} {d : PyData} (r : RdS h₀ (.ref a) d) (hs : d.showable = true) (hg : A.guards = some []) (hu : A.units + (d.depth + 1) < cLine) (hk0 : ∀ b o, h₀.get? b = some o → s.heap.get? b = some o)
    (hQ : ∀ h' u tk, (∀ b o, s.heap.get? b = some o → h'.get? b = some o) → Q (.str d.shown u) { s with heap := h', toks := tk }) (hsz : d.shown.length ≤ sizeLine) : wpAny (model prog w) A (call (.builtin "repr") [.ref a]) Q E s := by
  obtain ⟨T, idr, S⟩ := showsBy_rdS (prog := prog) (w := w) r hs hsz
  exact call_repr_slot (by omega) (S.typeIs s hk0) S.slotRepr (S.call A.in1 E s _ hg (by show A.units + 1 + d.depth < cLine; omega) hk0 fun h' u tk hk => ⟨_, _, rfl, hQ h' u tk hk⟩)
end
end Ly
namespace Ly
open PySem PySem.Spec PyProof.Rows L2
def keyPd : Key → PyData
  | .inl i => .int i
  | .inr x => .str x
mutual
inductive Dq (K : PySem.W.Frag) (H : Hp) : V → PyData → Prop
  | non : Dq K H .non .none
  | bl (b : Bool) : Dq K H (.bl b) (.bool b)
  | int (i : Int) : Dq K H (.int i) (.int i)
  | str (x : Str) : Dq K H (.str x) (.str x)
  | lst {a : Addr} {xs : List V} {ds : List PyData} : SqL K H a xs → DqA K H xs ds → Dq K H (.ref a) (.list ds)
  | tup {a : Addr} {xs : List V} {ds : List PyData} : SqT K H a xs → DqA K H xs ds → Dq K H (.ref a) (.tuple ds)
  | dic {a : Addr} {kws : List (Key × V)} {kvs : List (PyData × PyData)} : H a = some (.dK kws) → DqK K H kws kvs → Dq K H (.ref a) (.dict kvs)
inductive DqA (K : PySem.W.Frag) (H : Hp) : List V → List PyData → Prop
  | nil : DqA K H [] []
  | cons {v : V} {vs : List V} {d : PyData} {ds : List PyData} : Dq K H v d → DqA K H vs ds → DqA K H (v :: vs) (d :: ds)
inductive DqK (K : PySem.W.Frag) (H : Hp) : List (Key × V) → List (PyData × PyData) → Prop
  | nil : DqK K H [] []
  | cons {k : Key} {v : V} {vs : List (Key × V)} {d : PyData} {ds : List (PyData × PyData)} : Dq K H v d → DqK K H vs ds → DqK K H ((k, v) :: vs) ((keyPd k, d) :: ds)
end
section
variable {X : Cx} {pins : List (Addr × Obj)} {σ : L2.St} {H : Hp} {s : Shared}
theorem key_rdS {h : Heap} {k : Key} {u : Value} (r : RelV (kV k) u) : RdS h u (keyPd k) := by
  cases k with
  | inl i =>
    obtain ⟨t, rfl⟩ := r
    exact .int i t
  | inr x =>
    obtain ⟨t, rfl⟩ := r
    exact .str x t
mutual
theorem Dq.rdS (I : Inv X pins σ H s) : ∀ {v : V} {d : PyData} {u : Value}, Dq X.K H v d → RelV v u → RdS s.heap u d
  | _, _, _, .non, r => by cases r; exact .none
  | _, _, _, .bl b, r => by cases r; exact .bool b
  | _, _, _, .int i, r => by obtain ⟨t, rfl⟩ := r; exact .int i t
  | _, _, _, .str x, r => by obtain ⟨t, rfl⟩ := r; exact .str x t
  | _, _, _, .lst hs ha, r => by
    cases r
    obtain ⟨its, rv, ⟨o, n, ho, hc, _, hd⟩, _⟩ := I.list hs
    exact .list ho hc hd (DqA.rdS I ha rv)
  | _, _, _, .tup hs ha, r => by
    cases r
    obtain ⟨its, rv, ⟨o, ho, hc, n, hd⟩, _⟩ := I.tuple hs
    exact .tuple ho hc hd (DqA.rdS I ha rv)
  | _, _, _, .dic e hk, r => by
    cases r
    obtain ⟨_, hsys, vs, rel, o, es, ep, ho, hx, hd, _, hp, _⟩ := dk_of I.hok e
    obtain ⟨h1, h2⟩ := DqK.rdS I hk rel hp
    exact .dict ho hx.1 hd hsys h1 h2
theorem DqA.rdS (I : Inv X pins σ H s) : ∀ {vs : List V} {ds : List PyData} {us : List Value}, DqA X.K H vs ds → Vals vs us → RdSA s.heap us ds
  | _, _, _, .nil, r => by cases r; exact .nil
  | _, _, _, .cons a b, r => by
    cases r with
    | cons r1 r2 => exact .cons (Dq.rdS I a r1) (DqA.rdS I b r2)
theorem DqK.rdS (I : Inv X pins σ H s) : ∀ {kws : List (Key × V)} {kvs : List (PyData × PyData)} {vs : List (Key × Value)} {es : List DictEntry}, DqK X.K H kws kvs → KV kws vs → Pairs (mixKind X.prog X.w) es vs → RdSA s.heap (es.map (·.key)) (kvs.map (·.1)) ∧ RdSA s.heap (es.map (·.val)) (kvs.map (·.2))
  | _, _, _, _, .nil, r, p => by
    cases r
    cases p
    exact ⟨.nil, .nil⟩
  | _, _, _, _, .cons a b, r, p => by
    cases r with
    | cons h1 h2 =>
      cases p with
      | cons p1 p2 p3 =>
        obtain ⟨q1, q2⟩ := DqK.rdS I b h2 p3
        obtain ⟨e1, e2⟩ := h1
        refine ⟨.cons ?_ q1, .cons ?_ q2⟩
        · have := relV_key (show keyIs _ _ = true from p1)
          rw [← e1] at this
          exact key_rdS this
        · have := Dq.rdS I a e2
          rw [← p2] at this
          exact this
end
end
def rReprX (K : PySem.W.Frag) : List V → Hp → VK → Prop := fun xs H Q => ∃ x d, xs = [x] ∧ Dq K H x d ∧ d.showable = true ∧ d.depth ≤ 60 ∧ d.shown.length ≤ sizeLine ∧ Q (.str d.shown) H
theorem call_reprX {X : Cx} (hg : X.A.guards = some []) (hu : X.A.units + 64 < cLine) : CallR X (.builtin "repr") (rReprX X.K) := by
  intro pins s σ H xs us Q I r h
  obtain ⟨x, d, rfl, dp, hs, hd, hz, q⟩ := h
  obtain ⟨u, rfl, ru⟩ := vals1 r
  have rd := Dq.rdS I dp ru
  cases dp with
  | non =>
    cases ru
    exact PySem.P.repr_of_none ⟨.str _, H, I.tok _, ⟨_, rfl⟩, q⟩
  | bl b =>
    cases ru
    exact PySem.P.repr_of_bool ⟨.str _, H, I.tok _, ⟨_, rfl⟩, q⟩
  | int i =>
    obtain ⟨t, rfl⟩ := ru
    exact PySem.P.repr_of_int (of_decide_eq_true hs) ⟨.str _, H, I.tok _, ⟨_, rfl⟩, q⟩
  | str z =>
    obtain ⟨t, rfl⟩ := ru
    exact PySem.P.repr_of_str ⟨.str _, H, I.tok _, ⟨_, rfl⟩, q⟩ hz
  | lst a b =>
    cases ru
    exact repr_rdS rd hs hg (by omega) (fun _ _ e => e) (fun h' u tk hk => ⟨.str _, H, I.kept hk, ⟨_, rfl⟩, q⟩) hz
  | tup a b =>
    cases ru
    exact repr_rdS rd hs hg (by omega) (fun _ _ e => e) (fun h' u tk hk => ⟨.str _, H, I.kept hk, ⟨_, rfl⟩, q⟩) hz
  | dic a b =>
    cases ru
    exact repr_rdS rd hs hg (by omega) (fun _ _ e => e) (fun h' u tk hk => ⟨.str _, H, I.kept hk, ⟨_, rfl⟩, q⟩) hz
mutual
def pdX : D → Option PyData
  | .non => some .none
  | .bl b => some (.bool b)
  | .int i => some (.int i)
  | .str x => some (.str x)
  | .tup ds => (pdXA ds).map .tuple
  | .ftu ds => (pdXA ds).map .tuple
  | .lst ds => (pdXA ds).map .list
  | .scr ds => (pdXA ds).map .list
  | .dic kvs => (pdXK kvs).map .dict
  | _ => none
def pdXA : List D → Option (List PyData)
  | [] => some []
  | d :: ds => (pdX d).bind fun p => (pdXA ds).map fun ps => p :: ps
def pdXK : List (Key × D) → Option (List (PyData × PyData))
  | [] => some []
  | (k, d) :: ds => (pdX d).bind fun p => (pdXK ds).map fun ps => (keyPd k, p) :: ps
end
section
variable {K : PySem.W.Frag} {L : Wd} {H : Hp}
mutual
theorem pdX_ok : ∀ {d : D} {v : V} {p : PyData}, Is K L H d v → pdX d = some p → Dq K H v p
  | _, _, _, .non, h => by unfold pdX at h; cases h; exact .non
  | _, _, _, .bl b, h => by unfold pdX at h; cases h; exact .bl b
  | _, _, _, .int b, h => by unfold pdX at h; cases h; exact .int b
  | _, _, _, .str b, h => by unfold pdX at h; cases h; exact .str b
  | _, _, _, .tup q n r, h => by
    unfold pdX at h
    obtain ⟨ps, e, rfl⟩ := Option.map_eq_some_iff.mp h
    exact .tup (.inl (.inl q)) (pdXA_ok r e)
  | _, _, _, .tupK q r, h => by
    unfold pdX at h
    obtain ⟨ps, e, rfl⟩ := Option.map_eq_some_iff.mp h
    exact .tup (.inr q) (pdXA_ok r e)
  | _, _, _, .ftu q _ n r, h => by
    unfold pdX at h
    obtain ⟨ps, e, rfl⟩ := Option.map_eq_some_iff.mp h
    exact .tup (.inl (.inr ⟨_, q⟩)) (pdXA_ok r e)
  | _, _, _, .lst q n r, h => by
    unfold pdX at h
    obtain ⟨ps, e, rfl⟩ := Option.map_eq_some_iff.mp h
    exact .lst (.inl (.inl q)) (pdXA_ok r e)
  | _, _, _, .scr q n r, h => by
    unfold pdX at h
    obtain ⟨ps, e, rfl⟩ := Option.map_eq_some_iff.mp h
    exact .lst (.inl q) (pdXA_ok r e)
  | _, _, _, .scrK q r, h => by
    unfold pdX at h
    obtain ⟨ps, e, rfl⟩ := Option.map_eq_some_iff.mp h
    exact .lst (.inr q) (pdXA_ok r e)
  | _, _, _, .dic q n r, h => by
    unfold pdX at h
    obtain ⟨ps, e, rfl⟩ := Option.map_eq_some_iff.mp h
    exact .dic q (pdXK_ok r e)
  | _, _, _, .ty n, h => by unfold pdX at h; cases h
  | _, _, _, .adr n, h => by unfold pdX at h; cases h
  | _, _, _, .obj _ _ _, h => by unfold pdX at h; cases h
  | _, _, _, .ref _, h => by unfold pdX at h; cases h
theorem pdXA_ok : ∀ {ds : List D} {vs : List V} {ps : List PyData}, IsL K L H ds vs → pdXA ds = some ps → DqA K H vs ps
  | _, _, _, .nil, h => by unfold pdXA at h; cases h; exact .nil
  | _, _, _, .cons a b, h => by
    unfold pdXA at h
    obtain ⟨p, e1, h⟩ := Option.bind_eq_some_iff.mp h
    obtain ⟨qs, e2, rfl⟩ := Option.map_eq_some_iff.mp h
    exact .cons (pdX_ok a e1) (pdXA_ok b e2)
theorem pdXK_ok : ∀ {ds : List (Key × D)} {vs : List (Key × V)} {ps : List (PyData × PyData)}, IsKV K L H ds vs → pdXK ds = some ps → DqK K H vs ps
  | _, _, _, .nil, h => by unfold pdXK at h; cases h; exact .nil
  | _, _, _, .cons a b, h => by
    unfold pdXK at h
    obtain ⟨p, e1, h⟩ := Option.bind_eq_some_iff.mp h
    obtain ⟨qs, e2, rfl⟩ := Option.map_eq_some_iff.mp h
    exact .cons (pdX_ok a e1) (pdXK_ok b e2)
end
end
def pdXM (M : Mem) (d : D) : Option PyData := match d with
  | .ref n => (match M[n]? with
    | some (.lst ds) => (pdXA ds).map .list
    | some (.dic kvs) => (pdXK kvs).map .dict
    | _ => none)
  | d => pdX d
theorem pdXM_ok {K : PySem.W.Frag} {L : Wd} {H : Hp} {M : Mem} (m : MemIs K L H M) {d : D} {v : V} {p : PyData} (r : Is K L H d v) (h : pdXM M d = some p) : Dq K H v p := by
  unfold pdXM at h
  split at h
  · rename_i n
    obtain ⟨a, rfl, q'⟩ := ref_inv r
    split at h
    · rename_i ds q
      obtain ⟨ps, e, rfl⟩ := Option.map_eq_some_iff.mp h
      obtain ⟨vs, q2, r2⟩ := m.cell n a _ q' q
      exact .lst (.inl (.inl q2)) (pdXA_ok r2 e)
    · rename_i kvs q
      obtain ⟨ps, e, rfl⟩ := Option.map_eq_some_iff.mp h
      obtain ⟨vs, q2, r2⟩ := m.cell n a _ q' q
      exact .dic q2 (pdXK_ok r2 e)
    · cases h
  · exact pdX_ok r h
def fReprX : MF := fun ds M => match ds with
  | [d] => (match pdXM M d with
    | some p => if p.showable && decide (p.depth ≤ 60) && decide (p.shown.length ≤ 1000000) then .ok (.str p.shown) M else .bad
    | none => .bad)
  | _ => .bad
theorem rs_reprX {K : PySem.W.Frag} : RSC K (rReprX K) fReprX := by
  intro E L H M ds xs Q m rl h
  unfold fReprX at h
  split at h
  · obtain ⟨v, rfl, r⟩ := one_inv rl
    split at h
    · rename_i p hp
      split at h
      · rename_i hz
        have z1 := and_l hz
        exact ⟨v, p, rfl, pdXM_ok m r hp, and_l z1, of_decide_eq_true (and_r z1), Nat.le_trans (of_decide_eq_true (and_r hz)) (by decide), h.end_ m (.str _)⟩
      · exact h.elim
    · exact h.elim
  · exact h.elim
section
variable {G : Gd} {k : Nat} {E : XK} {N : List Str} {sc : Scope} {X : Cx} {e : Expr} {es : List Expr} {mr : MA} {pos p : Pos}
theorem ce_reprX (c : Cq G k E N sc X) (hm : Brp G "repr") (ha : PA X (e :: es) (tAD G.K E mr)) (hg : sc.names.lookup ("repr" : Str) = some NameKind.globalImplicit := by rfl)
    (he : starEach (e :: es) X.env = (false, eval e X.env) :: starEach es X.env := by rfl) (hpl : (backTo pos (starEach es X.env)).any (·.1) = false := by rfl) :
    PE X (.Call (.Name "repr" p) (e :: es) [] pos) (tD G.K E (mCB fReprX mr)) := by
  obtain rfl := c.g
  exact ce_callB (call_reprX (c.gd.trans hm.gs) (hu64 c.room)) rs_reprX c hg hm.fr (by decide +kernel) ha (by decide +kernel) (by decide +kernel) he hpl
end
end Ly
namespace Ly
open PySem PySem.Spec PyProof.Rows L2
section
variable {prog : Program} {w : World} {h₀ : Heap}
theorem strOf_rdS {A : Around} {E : Value → Shared → Prop} {s : Shared} {Q : Value → Shared → Prop} {a : Addr} {d : PyData} (r : RdS h₀ (.ref a) d) (hs : d.showable = true) (hg : A.guards = some []) (hu : A.units + (d.depth + 1) < cLine) (hk0 : ∀ b o, h₀.get? b = some o → s.heap.get? b = some o)
    (hQ : ∀ h' u tk, (∀ b o, s.heap.get? b = some o → h'.get? b = some o) → Q (.str d.shown u) { s with heap := h', toks := tk }) (hsz : d.shown.length ≤ sizeLine) : wpAny (model prog w) A (Builtin.Str.strOf (.ref a)) Q E s := by
  obtain ⟨T, idr, S⟩ := showsBy_rdS (prog := prog) (w := w) r hs hsz
  exact wpAny_strOf_slot rfl (by omega) (S.typeIs s hk0) S.slotStr S.slotRepr (S.call A.in1 E s _ hg (by show A.units + 1 + d.depth < cLine; omega) hk0 fun h' u tk hk => ⟨_, _, rfl, hQ h' u tk hk⟩)
theorem str_rdS {A : Around} {E : Value → Shared → Prop} {s : Shared} {Q : Value → Shared → Prop} {a : Addr} {d : PyData} (r : RdS h₀ (.ref a) d) (hs : d.showable = true) (hg : A.guards = some []) (hu : A.units + (d.depth + 3) < cLine) (hk0 : ∀ b o, h₀.get? b = some o → s.heap.get? b = some o)
    (hQ : ∀ h' u tk, (∀ b o, s.heap.get? b = some o → h'.get? b = some o) → Q (.str d.shown u) { s with heap := h', toks := tk }) (hsz : d.shown.length ≤ sizeLine) : wpAny (model prog w) A (call (.type "str") [.ref a]) Q E s :=
  callType_new F.called_str (by decide) (F.typeCall_str_1 _) (F.newCall_str_1 _) (fun obj => F.args_object_init_2 obj _) F.entry_str_new
    (meets_str_new (S := fun A' R s' => A'.guards = some [] ∧ A'.units + (d.depth + 2) < cLine ∧ (∀ b o, h₀.get? b = some o → s'.heap.get? b = some o) ∧
        ∀ h' u tk, (∀ b o, s'.heap.get? b = some o → h'.get? b = some o) → R (.ok (.ret (.str d.shown u))) { s' with heap := h', toks := tk })
      fun prog' w' A' R s' h => strOf_rdS (prog := prog') (w := w') (A := A'.in1) r hs h.1 (by show A'.units + 1 + (d.depth + 1) < cLine; have := h.2.1; omega) h.2.2.1 h.2.2.2 hsz)
    ⟨hg, by show A.units + 1 + (d.depth + 2) < cLine; omega, hk0, fun h' u tk hk => ⟨typeIs_str _ _ _, hQ h' u tk hk⟩⟩
end
def strPd : PyData → Str
  | .str x => x
  | p => p.shown
theorem call_strX {X : Cx} (hg : X.A.guards = some []) (hu : X.A.units + 64 < cLine) : CallR X (.type "str") (fun xs H Q => ∃ x d, xs = [x] ∧ Dq X.K H x d ∧ d.showable = true ∧ d.depth ≤ 60 ∧ d.shown.length ≤ sizeLine ∧ Q (.str (strPd d)) H) := by
  intro pins s σ H xs us Q I r h
  obtain ⟨x, d, rfl, dp, hs, hd, hz, q⟩ := h
  obtain ⟨u, rfl, ru⟩ := vals1 r
  have rd := Dq.rdS I dp ru
  cases dp with
  | non =>
    cases ru
    exact PySem.P.str_of_none ⟨.str _, H, I.tok _, ⟨_, rfl⟩, q⟩
  | bl b =>
    cases ru
    exact PySem.P.str_of_bool ⟨.str _, H, I.tok _, ⟨_, rfl⟩, q⟩
  | int i =>
    obtain ⟨t, rfl⟩ := ru
    exact PySem.P.str_of_int (of_decide_eq_true hs) ⟨.str _, H, I.tok _, ⟨_, rfl⟩, q⟩
  | str z =>
    obtain ⟨t, rfl⟩ := ru
    exact PySem.P.str_of_str ⟨.str _, H, I, ⟨t, rfl⟩, q⟩
  | lst a b =>
    cases ru
    exact str_rdS rd hs hg (by omega) (fun _ _ e => e) (fun h' u tk hk => ⟨.str _, H, I.kept hk, ⟨_, rfl⟩, q⟩) hz
  | tup a b =>
    cases ru
    exact str_rdS rd hs hg (by omega) (fun _ _ e => e) (fun h' u tk hk => ⟨.str _, H, I.kept hk, ⟨_, rfl⟩, q⟩) hz
  | dic a b =>
    cases ru
    exact str_rdS rd hs hg (by omega) (fun _ _ e => e) (fun h' u tk hk => ⟨.str _, H, I.kept hk, ⟨_, rfl⟩, q⟩) hz
def fStrX : MF := fun ds M => match ds with
  | [d] => (match pdXM M d with
    | some p => if p.showable && decide (p.depth ≤ 60) && decide (p.shown.length ≤ 1000000) then .ok (.str (strPd p)) M else .bad
    | none => .bad)
  | _ => .bad
theorem rs_strX {K : PySem.W.Frag} : RSC K (fun xs H Q => ∃ x d, xs = [x] ∧ Dq K H x d ∧ d.showable = true ∧ d.depth ≤ 60 ∧ d.shown.length ≤ sizeLine ∧ Q (.str (strPd d)) H) fStrX := by
  intro E L H M ds xs Q m rl h
  unfold fStrX at h
  split at h
  · obtain ⟨v, rfl, r⟩ := one_inv rl
    split at h
    · rename_i p hp
      split at h
      · rename_i hz
        have z1 := and_l hz
        exact ⟨v, p, rfl, pdXM_ok m r hp, and_l z1, of_decide_eq_true (and_r z1), Nat.le_trans (of_decide_eq_true (and_r hz)) (by decide), h.end_ m (.str _)⟩
      · exact h.elim
    · exact h.elim
  · exact h.elim
section
variable {G : Gd} {k : Nat} {E : XK} {N : List Str} {sc : Scope} {X : Cx} {e : Expr} {es : List Expr} {mr : MA} {pos p : Pos}
theorem ce_strX (c : Cq G k E N sc X) (hm : Brp G "str") (ha : PA X (e :: es) (tAD G.K E mr)) (hg : sc.names.lookup ("str" : Str) = some NameKind.globalImplicit := by rfl)
    (he : starEach (e :: es) X.env = (false, eval e X.env) :: starEach es X.env := by rfl) (hpl : (backTo pos (starEach es X.env)).any (·.1) = false := by rfl) :
    PE X (.Call (.Name "str" p) (e :: es) [] pos) (tD G.K E (mCB fStrX mr)) := by
  obtain rfl := c.g
  exact ce_callT (call_strX (c.gd.trans hm.gs) (hu64 c.room)) rs_strX c hg hm.fr (by decide +kernel) ha (by decide +kernel) (by decide +kernel) he hpl
end
end Ly
namespace Ly
open PySem PySem.Spec PyProof.Rows L2
section
variable {G : Gd} {k : Nat} {E : XK} {N : List Str} {sc : Scope} {X : Cx} {pos : Pos}
end
end Ly
namespace L2
open PySem PySem.Spec PyProof.Rows
section
variable {X : Cx} {e : Expr} {es : List Expr} {ta : TA} {p1 p2 pos : Pos}
end
section
variable {P : Program} {w : World} {K : PySem.W.Frag} {mg : Str → Option Value} {base : Heap} {qual y f m : Str} {params : Arguments} {sc : Scope} {kws : List (Str × V)} {C B fa : Addr} {fd : FuncData} {k j : Nat} {p1 p2 p3 p4 p5 p6 p7 p8 p9 p10 : Pos}
end
end L2
namespace Ly
open PySem PySem.Spec PyProof.Rows L2
section
variable {G : Gd} {j k : Nat} {E : XK} {N : List Str} {sc : Scope} {X : Cx} {e : Expr} {x f : Str} {ma : ME} {p pos pos' : Pos}
end
end Ly
namespace L2
open PySem PySem.Spec PyProof.Rows
def HasD (H : Hp) (d : Option Addr) : Prop := ∃ dd gs, d = some dd ∧ H dd = some (.xd gs)
section
variable {X : Cx} {a D : Addr} {oe : Obj} {d : Option Addr} {pn pins : List (Addr × Obj)} {σ : St} {H : Hp} {s : Shared}
end
section
variable {X : Cx} {x : Str} {A : Addr} {es : List Expr} {vs : List V} {p : Pos}
end
end L2
namespace Ly
open PySem PySem.Spec PyProof.Rows L2
abbrev hN : List Str := ["_law_text", "_law_told", "e", "_law_others_here"]
section
variable {X : Cx} {a D : Addr} {oe : Obj} {cls : Value} {d : Option Addr} {pn : List (Addr × Obj)} {us ws : List Value} {vsA vsB : List V} {esA esB : List Expr} {m2 : Str}
variable {u2 u3 u4 j2 : Nat}
end
end Ly
namespace Ly
open PySem PySem.Spec PyProof.Rows L2
theorem mem_sub {K : PySem.W.Frag} {L : Wd} {H H' : Hp} {M : Mem} (m : MemIs K L H M) (s : ∀ b o, H b = some o → H' b = some o) : Step L H L H' ∧ MemIs K L H' M := by
  have st : Step L H L H' := ⟨⟨[], by simp⟩, rfl, fun a h => by
    obtain ⟨_, u, e, _⟩ := m.hid a h
    rw [e, s _ _ e], fun a o e n _ => ⟨s _ _ e, n⟩⟩
  refine ⟨st, m.len, m.nd, fun n a c e q => ?_, fun a h => ⟨(m.hid a h).1, ?_⟩, m.tab.mv st.mv fun P ps e n => ⟨by rw [e, s _ _ e], n⟩⟩
  · have z := m.cell n a c e q
    obtain ⟨o, eo⟩ := z.some
    exact z.mono st (by rw [eo, s _ _ eo])
  · obtain ⟨_, u, e, t⟩ := m.hid a h
    exact ⟨u, s _ _ e, t⟩
section
variable {G : Gd} {j k : Nat} {E : XK} {sc : Scope} {X : Cx} {f : MF} {us ws : List Value} {vsA vsB : List V} {esA esB : List Expr} {m1 m2 x z : Str} {u1 u2 u3 u4 j1 j2 : Nat}
end
end Ly
namespace Ly
open PySem PySem.Spec PyProof.Rows L2
section
variable {G : Gd} {k j : Nat} {N ps : List Str} {sc : Scope} {x qual : Str} {params : Arguments} {body : List Stmt} {kws : List (Str × V)} {m : MS}
end
end Ly
namespace Ly
open PySem PySem.Spec PyProof.Rows L2
section
variable {G : Gd} {k : Nat} {E : XK} {N : List Str} {sc : Scope} {X : Cx}
end
end Ly
namespace Ly
open PySem PySem.Spec PyProof.Rows L2
section
variable {G : Gd} {k : Nat} {E : XK} {N : List Str} {sc : Scope} {X : Cx} {e : Expr} {es : List Expr} {mr : MA} {p pos : Pos}
end
end Ly
namespace Ly
open PySem PySem.Spec PyProof.Rows L2 He
end Ly
namespace Ly
open PySem PySem.Spec PyProof.Rows L2
def mTNew : ME := fun _ M => .ok (.ref M.length) (M ++ [.dct [] []])
section
variable {G : Gd} {k : Nat} {E : XK} {N : List Str} {sc : Scope} {X : Cx} {pos : Pos}
theorem ce_tnew : PE X (.Dict [] [] pos) (tD G.K E mTNew) := pe_dnewT.imp fun σ H Q ⟨env, L, M, he, hm, h⟩ p hp => by
  have lp : (L.add p).l[M.length]? = some p := by
    show (L.l ++ [p])[M.length]? = some p
    rw [← hm.len]
    simp
  exact h (L.add p) _ _ (Step.cell hm hp) (hm.push hp ⟨[], upd_same, rfl, .nil⟩) (.ref lp)
end
theorem go_tnew {env : Env} {M : Mem} {Q : D → Mem → Prop} : Go (mTNew env M) Q = Q (.ref M.length) (M ++ [.dct [] []]) := id rfl
end Ly
namespace Ly
open PySem PySem.Spec PyProof.Rows L2
def opNotB (d e : D) (M : Mem) : Res D := match d, e with
  | .bl b, .bl c => .ok (.bl (!decide (b = c))) M
  | _, _ => .bad
section
variable {G : Gd} {k : Nat} {E : XK} {N : List Str} {sc : Scope} {X : Cx} {a b e o : Expr} {es : List Expr} {ma mb mo : ME} {mr : MA} {pos p p2 apos cpos : Pos}
end
end Ly
namespace L2
open PySem PySem.Spec PyProof.Rows
theorem tuple_mul1 (l : Addr) (items : Array Value) (n : Nat) (sl : Array (Option Value)) (dd : Option Addr) (u : Tok) :
    Meets (Builtin.«tuple.__mul__» ⟨[.ref l, .int 1 u], []⟩) (fun _ R s => s.heap.get? l = some { cls := .type "tuple", dict := dd, data := .seq items n, slots := sl } ∧ R (.ok (.ret (Value.ref l))) s) :=
  .of_wp fun prog w A R s h => by
    obtain ⟨hp, g, d, tk, os⟩ := s
    obtain ⟨hl, h⟩ := h
    have f1 := AutoSeq1.idx_int
    wp_walk using wpAny_loadPart' hl
    repeat (first
      | (refine wpAny_ite_false (by decide) ?_; wp_walk using wpAny_loadPart' hl)
      | (refine wpAny_ite_true (by simp) ?_; wp_walk using wpAny_loadPart' hl))
    exact ⟨_, rfl, h⟩
theorem tuple_mul0 (l : Addr) (items : Array Value) (n : Nat) (sl : Array (Option Value)) (dd : Option Addr) (u : Tok) (hi : items.isEmpty = false) :
    Meets (Builtin.«tuple.__mul__» ⟨[.ref l, .int 0 u], []⟩) (fun _ R s => s.heap.get? l = some { cls := .type "tuple", dict := dd, data := .seq items n, slots := sl } ∧
      R (.ok (.ret (Value.ref s.heap.objs.size))) { s with heap := s.heap.push { cls := Value.type "tuple", data := Data.seq #[] }, toks := s.toks }) :=
  .of_wp fun prog w A R s h => by
    obtain ⟨hp, g, d, tk, os⟩ := s
    obtain ⟨hl, h⟩ := h
    have f1 := AutoSeq1.idx_int
    wp_walk using wpAny_loadPart' hl
    repeat (first
      | (refine wpAny_ite_false (by decide) ?_; wp_walk using wpAny_loadPart' hl)
      | (refine wpAny_ite_false (by rw [hi]; decide) ?_; wp_walk using wpAny_loadPart' hl)
      | (refine wpAny_ite_true (by simp) ?_; wp_walk using wpAny_loadPart' hl))
    exact ⟨_, rfl, h⟩
def rRep01 (K : PySem.W.Frag) : R2 := fun x y H Q => ∃ l xs, x = .ref l ∧ SqT K H l xs ∧ ((y = .int 1 ∧ Q (.ref l) H) ∨ (y = .int 0 ∧ xs ≠ [] ∧ ∀ p, H p = none → Q (.ref p) (upd H p (.tup []))))
theorem op_rep01 {X : Cx} : OpR X (binaryOp .Mult) (rRep01 X.K) := by
  intro pins s σ H x y v u Q I rx ry h
  obtain ⟨l, xs, rfl, hT, h⟩ := h
  cases rx
  obtain ⟨its, r, ⟨⟨cls, dd, data, sl⟩, ho, hc, n, hd⟩, hs⟩ := I.tuple hT
  simp only at hc hd
  subst hc hd
  have hle : its.length = xs.length := r.length.symm
  rcases h with ⟨rfl, q⟩ | ⟨rfl, hne, q⟩
  · obtain ⟨t, rfl⟩ := ry
    exact wpAny_binaryOp_repeat_ref (T := "tuple") (U := "int") (by decide) ⟨_, ho, rfl⟩ (fun s' => typeIs_int s' 1 t) noFill_tuple_mul F.fills_int_mul F.slot_int_rmul repeat_tuple F.slot_int_index.lookup
      (call_meets F.slot_int_rmul (typeIs_int s 1 t) F.entry_int_rmul (F.args_int_rmul_2 _ _) (int_rmul_tuple 1 t l its.toArray n dd sl)
        ⟨ho, rfl, ⟨_, ho, rfl⟩, call_meets F.slot_tuple_mul ⟨_, ho, rfl⟩ F.entry_tuple_mul (F.args_tuple_mul_2 _ _) (tuple_mul1 l its.toArray n sl dd t) ⟨ho, ⟨.ref l, H, I, rfl, q⟩⟩⟩)
  · obtain ⟨t, rfl⟩ := ry
    have hi : its.toArray.isEmpty = false := by
      cases its with
      | nil => exact absurd (List.eq_nil_of_length_eq_zero hle.symm) hne
      | cons a b => rfl
    refine wpAny_binaryOp_repeat_ref (T := "tuple") (U := "int") (by decide) ⟨_, ho, rfl⟩ (fun s' => typeIs_int s' 0 t) noFill_tuple_mul F.fills_int_mul F.slot_int_rmul repeat_tuple F.slot_int_index.lookup
      (call_meets F.slot_int_rmul (typeIs_int s 0 t) F.entry_int_rmul (F.args_int_rmul_2 _ _) (int_rmul_tuple 0 t l its.toArray n dd sl)
        ⟨ho, rfl, ⟨_, ho, rfl⟩, call_meets F.slot_tuple_mul ⟨_, ho, rfl⟩ F.entry_tuple_mul (F.args_tuple_mul_2 _ _) (tuple_mul0 l its.toArray n sl dd t hi) ⟨ho, ?_⟩⟩)
    refine ⟨.ref s.heap.objs.size, _, I.laid (t' := s.toks) (o := .tup []) (fun b ob q => Heap.get?_push_of_some _ q) (Nat.le_refl _) ?_, rfl, q _ (I.hok.fresh (Nat.le_refl _))⟩
    exact ⟨by decide, _, .nil, IsTup.new _ #[]⟩
theorem PE.ex {X : Cx} {ι : Type} {e : Expr} {t : ι → TE} (h : ∀ i, PE X e (t i)) : PE X e (fun σ H Q => ∃ i, t i σ H Q) := ⟨fun pins s σ H Q I ⟨i, q⟩ => (h i).run pins s σ H Q I q⟩
end L2
namespace Ly
open PySem PySem.Spec PyProof.Rows L2
open Classical in
noncomputable def opMulT (d e : D) (M : Mem) : Res D := match d, e with
  | .tup ds, .int k => if k = 1 then .ok (.tup ds) M else if k = 0 ∧ ds.length ≠ 0 then .ok (.tup []) M else .bad
  | d, e => opMul d e M
theorem rs_mulT {K : PySem.W.Frag} : RS2 K (fun x y H Q => ((rI CMulW fun i j => .int (i * j)) x y H Q ∨ rRep x y H Q) ∨ rRep01 K x y H Q) opMulT := by
  intro E L H M d e x y Q m rd re h
  unfold opMulT at h
  split at h
  · split at h
    · next hk =>
      subst hk
      cases re
      obtain ⟨l, vs, rfl, q, r⟩ := rd.tup_inv
      exact .inr ⟨l, vs, rfl, q, .inl ⟨rfl, h.end_ m rd⟩⟩
    · split at h
      · next hk =>
        obtain ⟨rfl, hk⟩ := hk
        cases re
        obtain ⟨l, vs, rfl, q, r⟩ := rd.tup_inv
        refine .inr ⟨l, vs, rfl, q, .inr ⟨rfl, fun z => hk ?_, new_tup m .nil h⟩⟩
        rw [r.length, z]
        rfl
      · exact h.elim
  · exact .inl (rs_mul E L H M d e x y Q m rd re h)
section
variable {G : Gd} {k : Nat} {E : XK} {N : List Str} {sc : Scope} {X : Cx} {a b e f o : Expr} {es : List Expr} {ma mb mo : ME} {mr : MA} {pos p p2 apos cpos : Pos} {x y : Str}
theorem rs_notB {K : PySem.W.Frag} : RS2 K (fun x y H Q => ∃ a b, x = .bl a ∧ y = .bl b ∧ Q (.bl (!decide (a = b))) H) opNotB := by
  intro E L H M d e x y Q m rd re h
  unfold opNotB at h
  split at h
  · cases rd; cases re
    exact ⟨_, _, rfl, rfl, h.end_ m (.bl _)⟩
  · exact h.elim
theorem ct_notB (ha : PE X a (tD G.K E ma)) (hb : PE X b (tD G.K E mb)) : PT X (.Compare a [.IsNot] [b] pos) (tTD G.K E (mTest (mBin opNotB ma mb))) := ct_cmp op_isnot_bl rs_notB ha hb (nomark b)
def mKGet (kvs : List (Str × D)) (ma mb : ME) : ME := fun env M => (ma env M).bind fun d M1 => (mb env M1).bind fun e M2 => match d with
  | .str z => .ok ((tabGet kvs z).getD e) M2
  | _ => .bad
def telGet (kfs : List (Str × Str × MF)) (z : Str) : Option (Str × MF) := (kfs.find? fun kv => decide (kv.1 = z)).map (·.2)
def mTell (kfs : List (Str × Str × MF)) (i n : Nat) (me : ME) (mr : MA) : MS := fun env M => (me env M).bindS fun d M1 => match d with
  | .str z => (match if i < env.length then telGet kfs z else none with
    | some t => (mCall n t.2 mr (env.set i none) M1).bindS fun d M2 => .rt d M2
    | none => .bad)
  | _ => .bad
end
end Ly
namespace Ly
open PySem PySem.Spec PyProof.Rows L2
section
variable {prog : Program} {w : World} {A : Around} {E : Value → Shared → Prop} {s : Shared} {a b : Addr} {S T : Str → Bool} {n m : Nat}
end
def setEqB (xs ys : List Str) : Bool := decide ((met xs xs.length).length = (met ys ys.length).length ∧ ∀ k ∈ met xs xs.length, k ∈ met ys ys.length)
def mSetEq (ma mb : ME) : ME := fun env M => (ma env M).bind fun d M1 => match (lstOf d M1).bind strsOf with
  | some xs => if xs.length ≤ 3000 then (mb env M1).bind fun e M2 => (match (lstOf e M2).bind strsOf with
    | some ys => if ys.length ≤ 3000 then .ok (.bl (setEqB xs ys)) M2 else .bad
    | none => .bad) else .bad
  | none => .bad
section
variable {G : Gd} {k : Nat} {E : XK} {N : List Str} {sc : Scope} {X : Cx} {pos p p2 q q2 : Pos} {a b : Expr} {ma mb : ME}
end
end Ly
namespace PySem
open Sem (wp)
open MeetsSeq
section
variable {prog : Program} {w : World} {A : Around} {E : Value → Shared → Prop} {s : Shared} {z TI TO T i1 i2 : Addr} {fp1 fp2 : List Addr} {n1 n2 i : Nat} {P1 P2 : Nat → Value → Prop} {St1 St2 : Nat → Heap → Prop} {f : Bool} {oT : Obj}
end
section
variable {prog : Program} {w : World} {z TI TO i1 i2 : Addr} {fp1 fp2 : List Addr} {n1 n2 : Nat} {P1 P2 : Nat → Value → Prop} {St1 St2 : Nat → Heap → Prop}
end
end PySem
namespace L2
open PySem PySem.Spec PyProof.Rows
def zipK {α : Type} (z : Str) (ys : List α) : List (Key × α) := (z.cps.toList.map fun c => (Sum.inr (⟨#[c]⟩ : Str) : Key)).zip ys
end L2
namespace Ly
open PySem PySem.Spec PyProof.Rows L2
def mDictZip (kp : Bool) (mr : MA) : ME := fun env M => (mr env M).bind fun ds M1 => match ds with
  | [.str z, d] => (match lstOf d M1 with
    | some ys => if z.length ≤ 1000 then bdD kp (mergeD [] (zipK z ys)) M1 else .bad
    | none => .bad)
  | _ => .bad
section
variable {G : Gd} {k : Nat} {E : XK} {N : List Str} {sc : Scope} {X : Cx} {e e2 : Expr} {mr : MA} {p p2 q pos : Pos} {kp : Bool}
theorem go_dictZip {env : Env} {M : Mem} {Q : D → Mem → Prop} : Go (mDictZip kp mr env M) Q = Go (mr env M) fun ds M1 => ∃ z d ys, ds = [.str z, d] ∧ lstOf d M1 = some ys ∧ z.length ≤ 1000 ∧ Go (bdD kp (mergeD [] (zipK z ys)) M1) Q := by
  unfold mDictZip
  rw [go_bind]
  congr 1
  funext ds M1
  refine propext ⟨fun h => ?_, fun h => ?_⟩
  · split at h
    · split at h
      · next ys hy =>
        rw [go_iteC] at h
        exact ⟨_, _, _, rfl, hy, h.1, h.2⟩
      · exact h.elim
    · exact h.elim
  · obtain ⟨z, d, ys, rfl, hy, hz, h⟩ := h
    simp only [hy]
    rw [go_iteC]
    exact ⟨hz, h⟩
end
end Ly
namespace Ly
open PySem PySem.Spec PyProof.Rows L2
section
variable {G : Gd} {k : Nat} {E : XK} {N : List Str} {sc : Scope} {X : Cx} {a b o p i j : Expr} {mo mi mp mj : ME} {mr : MA} {pos p1 p2 pt pt2 : Pos} {kt k2 : Nat}
end
theorem go_tell {env : Env} {M : Mem} {S : Env → Mem → Prop} {R : D → Mem → Prop} {kfs : List (Str × Str × MF)} {i n : Nat} {me : ME} {mr : MA} : GoS (mTell kfs i n me mr env M) S R = Go (me env M) fun d M1 => i < env.length ∧ ∃ z fx f, d = .str z ∧ telGet kfs z = some (fx, f) ∧ Go (mCall n f mr (env.set i none) M1) R := by
  unfold mTell
  rw [go_bindS]
  congr 1
  funext d M1
  cases d with
  | str z =>
    by_cases h : i < env.length
    · cases q : telGet kfs z with
      | none => simp [GoS, h, q]
      | some t =>
        obtain ⟨fx, f⟩ := t
        show GoS (match (if i < env.length then telGet kfs z else none) with
          | some t => (mCall n t.2 mr (env.set i none) M1).bindS fun d M2 => ResS.rt d M2
          | none => ResS.bad) S R = _
        rw [if_pos h, q]
        show GoS ((mCall n f mr (env.set i none) M1).bindS fun d M2 => ResS.rt d M2) S R = _
        rw [go_bindS]
        refine propext ⟨fun r => ⟨h, z, fx, f, rfl, q, r⟩, fun r => ?_⟩
        obtain ⟨_, z', fx', f', e, q', r⟩ := r
        cases e
        rw [q] at q'
        cases q'
        exact r
    · simp [GoS, h]
  | _ => simp [GoS]
theorem go_kget {env : Env} {M : Mem} {Q : D → Mem → Prop} {kvs : List (Str × D)} {ma mb : ME} : Go (mKGet kvs ma mb env M) Q = Go (ma env M) fun d M1 => Go (mb env M1) fun e M2 => ∃ z, d = .str z ∧ Q ((tabGet kvs z).getD e) M2 := by
  unfold mKGet
  rw [go_bind]
  congr 1
  funext d M1
  rw [go_bind]
  congr 1
  funext e M2
  cases d <;> simp [Go]
theorem go_notB {M : Mem} {x y : Bool} {Q : D → Mem → Prop} : Go (opNotB (.bl x) (.bl y) M) Q = Q (.bl (!decide (x = y))) M := id rfl
theorem go_setEq {env : Env} {M : Mem} {Q : D → Mem → Prop} {ma mb : ME} : Go (mSetEq ma mb env M) Q = Go (ma env M) fun d M1 => ∃ xs, (lstOf d M1).bind strsOf = some xs ∧ xs.length ≤ 3000 ∧ Go (mb env M1) fun e M2 => ∃ ys, (lstOf e M2).bind strsOf = some ys ∧ ys.length ≤ 3000 ∧ Q (.bl (setEqB xs ys)) M2 := by
  unfold mSetEq
  rw [go_bind]
  congr 1
  funext d M1
  cases (lstOf d M1).bind strsOf with
  | none => simp [Go]
  | some xs =>
    simp only [Option.some.injEq, exists_eq_left']
    rw [go_iteC, go_bind]
    congr 2
    funext e M2
    cases (lstOf e M2).bind strsOf with
    | none => simp [Go]
    | some ys =>
      simp only [Option.some.injEq, exists_eq_left']
      rw [go_iteC]
      rfl
end Ly
namespace L2
open PySem PySem.Spec PyProof.Rows
def stepIx (n : Nat) (l u : Option Int) (c : Int) : List Nat := match Builtin.Slice.sliceAdjust l u c (n : Int) with
  | (lo, hi) => (List.range (Builtin.Slice.slicePlaces lo hi c)).map fun (m : Nat) => (lo + (m : Int) * c).toNat
def pickS {α : Type} (xs : List α) (l u : Option Int) (c : Int) : List α := (stepIx xs.length l u c).filterMap (xs[·]?)
section
variable {prog : Program} {w : World} {A : Around} {E : Value → Shared → Prop} {s : Shared}
end
end L2
namespace Ly
open PySem PySem.Spec PyProof.Rows L2
def opSlS (d : D) (l u c : Option Int) (M : Mem) : Res D := match d, c with
  | .tup ds, some i => if i ≠ 0 ∧ i ≠ 1 ∧ szOk (stepIx ds.length l u i).length = true then .ok (.tup (pickS ds l u i)) M else .bad
  | _, _ => .bad
def mSlS (a : ME) (lo hi st : MO) : ME := fun env M => (a env M).bind fun d M1 => (lo env M1).bind fun l M2 => (hi env M2).bind fun u M3 => (st env M3).bind fun c M4 => opSlS d l u c M4
section
variable {G : Gd} {k : Nat} {E : XK} {N : List Str} {sc : Scope} {X : Cx} {a : Expr} {lo hi st : Option Expr} {ma : ME} {ml mh mc : MO} {pos p2 : Pos}
theorem go_slStep {env : Env} {M : Mem} {Q : D → Mem → Prop} : Go (mSlS ma ml mh mc env M) Q = Go (ma env M) fun d M1 => Go (ml env M1) fun l M2 => Go (mh env M2) fun u M3 => Go (mc env M3) fun c M4 => Go (opSlS d l u c M4) Q := by
  unfold mSlS
  rw [go_bind]
  congr 1
  funext d M1
  rw [go_bind]
  congr 1
  funext l M2
  rw [go_bind]
  congr 1
  funext u M3
  rw [go_bind]
theorem go_slStepT {M : Mem} {ds : List D} {l u : Option Int} {i : Int} {Q : D → Mem → Prop} : Go (opSlS (.tup ds) l u (some i) M) Q = ((i ≠ 0 ∧ i ≠ 1 ∧ szOk (stepIx ds.length l u i).length = true) ∧ Q (.tup (pickS ds l u i)) M) := go_iteC
end
end Ly
namespace Ly
open PySem PySem.Spec PyProof.Rows L2
def repS (x : Str) (n : Nat) : Str := ⟨(List.replicate n x.cps).foldl (· ++ ·) #[]⟩
def rRepS : R2 := fun x y H Q => ∃ i k, x = .str i ∧ y = .int k ∧ 1 ≤ k ∧ k ≤ 1000 ∧ 0 < i.length ∧ i.length ≤ 1000 ∧ Q (.str (repS i k.toNat)) H
theorem repS_one (x : Str) : repS x 1 = x := by
  unfold repS
  simp
theorem fold_size (a : Array Nat) : ∀ (n : Nat) (acc : Array Nat), ((List.replicate n a).foldl (· ++ ·) acc).size = acc.size + n * a.size
  | 0, acc => by simp
  | n + 1, acc => by
    rw [List.replicate_succ, List.foldl_cons, fold_size a n, Array.size_append, Nat.succ_mul]
    omega
theorem rep_len (x : Str) (n : Nat) : (repS x n).length = n * x.length := by
  show ((List.replicate n x.cps).foldl (· ++ ·) #[]).size = n * x.cps.size
  rw [fold_size]
  simp
theorem rep_small {i : Str} {n : Nat} (h4 : i.length ≤ 1000) (hn : n ≤ 1000) : (repS i n).length ≤ sizeLine := by
  have h7 : 1000000 ≤ sizeLine := by decide
  rw [rep_len]
  have := Nat.mul_le_mul hn h4
  omega
theorem op_repS {X : Cx} : OpR X (binaryOp .Mult) rRepS := by
  intro pins s σ H x y v u Q I rx ry h
  obtain ⟨i, k, rfl, rfl, h1, h2, h3, h4, q⟩ := h
  obtain ⟨t, rfl⟩ := rx
  obtain ⟨t', rfl⟩ := ry
  have c1 : ¬ k < 1 := by omega
  refine P.mul_str ?_ ?_ ?_ ?_
  · rw [decide_eq_false (by omega), decide_eq_false (by omega)]
    rfl
  · intro _ _ hc
    have : (1000 : Int) ≤ (2 ^ 63 - 1) / k := Int.le_ediv_of_mul_le (by omega) (by omega)
    have h5 : (i.length : Int) ≤ 1000 := by omega
    omega
  · intro _ _
    have hk : k.toNat ≤ 1000 := by omega
    have h6 : i.length * k.toNat ≤ 1000 * 1000 := Nat.mul_le_mul h4 hk
    have h7 : 1000000 ≤ sizeLine := by decide
    unfold Builtin.Str.tooLong
    exact decide_eq_false (by omega)
  · rw [if_neg c1]
    by_cases e : k = 1
    · subst e
      rw [if_pos (by rfl)]
      have : repS i (1 : Int).toNat = i := repS_one i
      rw [this] at q
      exact ⟨.str i, H, I, ⟨_, rfl⟩, q⟩
    · rw [if_neg (by simp [e]; omega)]
      exact ⟨rep_small h4 (by omega), ⟨.str (repS i k.toNat), H, I.tok _, ⟨_, rfl⟩, q⟩⟩
noncomputable def opMulU (d e : D) (M : Mem) : Res D := match d, e with
  | .str x, .int k => if 1 ≤ k ∧ k ≤ 1000 ∧ 0 < x.length ∧ x.length ≤ 1000 then .ok (.str (repS x k.toNat)) M else .bad
  | d, e => opMulT d e M
theorem rs_mulU {K : PySem.W.Frag} : RS2 K (fun x y H Q => (((rI CMulW fun i j => .int (i * j)) x y H Q ∨ rRep x y H Q) ∨ rRep01 K x y H Q) ∨ rRepS x y H Q) opMulU := by
  intro E L H M d e x y Q m rd re h
  unfold opMulU at h
  split at h
  · split at h
    · next hk =>
      cases rd; cases re
      exact .inr ⟨_, _, rfl, rfl, hk.1, hk.2.1, hk.2.2.1, hk.2.2.2, h.end_ m (.str _)⟩
    · exact h.elim
  · exact .inl (rs_mulT E L H M d e x y Q m rd re h)
section
variable {G : Gd} {k : Nat} {E : XK} {N : List Str} {sc : Scope} {X : Cx} {a b : Expr} {ma mb : ME} {pos : Pos}
theorem ce_mulU (c : Cq G k E N sc X) (ha : PE X a (tD G.K E ma)) (hb : PE X b (tD G.K E mb)) : PE X (.BinOp a .Mult b pos) (tD G.K E (mBin opMulU ma mb)) := by
  obtain rfl := c.g
  exact ce_op ((op_mulA.or op_rep01).or op_repS) rs_mulU ha hb
end
section
variable {M : Mem} {Q : D → Mem → Prop} {i j : Int} {x : Str} {ds : List D}
theorem go_mulUI : Go (opMulU (.int i) (.int j) M) Q = Go (opMul (.int i) (.int j) M) Q := id rfl
end
end Ly
namespace Ly
open PySem PySem.Spec PyProof.Rows L2
section
variable {G : Gd} {k : Nat} {E : XK} {N : List Str} {sc : Scope} {X : Cx} {pos p : Pos}
end
end Ly
namespace Ly
open PySem PySem.Spec PyProof.Rows L2
open PySem.SeqAt (EqAt RcAt rc_eq_decline_or)
open AutoSeq1 (wpAny_loadPart')
open MeetsSeq
section
variable {prog : Program} {w : World} {A : Around} {E : Value → Shared → Prop} {s : Shared}
theorem str_eq_declines_dict (b : Str) (u : Tok) (l : Addr) (c : Value) (es : Array DictEntry) (n : Nat) (dd : Option Addr) (sl : Array (Option Value)) :
    Meets (Builtin.«str.__eq__» ⟨[.str b u, .ref l], []⟩) (fun _ R s => s.heap.get? l = some { cls := c, dict := dd, data := .dict es n, slots := sl } ∧ R (.ok (.ret .notImplemented)) s) :=
  .of_wp fun prog w A R s h => by obtain ⟨hp, g, d, tk, os⟩ := s; obtain ⟨hl, h⟩ := h; wp_walk using wpAny_loadPart' hl, wpAny_load hl; exact ⟨_, rfl, h⟩
theorem rc_dict_str {l : Addr} {o : Obj} {es : Array DictEntry} {n : Nat} (b : Str) (u : Tok) (ho : s.heap.get? l = some o) (hc : o.cls = .type "dict") (hd : o.data = .dict es n) (hu : A.units < cLine) : RcAt A s (.ref l) (.str b u) false := fun prog w E Q h => by
  obtain ⟨cls, dd, data, sl⟩ := o
  simp only at hc hd
  subst hc hd
  have ht : s.TypeIs (.ref l) "dict" := ⟨_, ho, rfl⟩
  refine rc_eq_decline_or (k := false) ht (typeIs_str s b u) (by decide) F.sub_str_dict F.slot_dict_eq F.slot_str_eq_refl
    (fun Q' hq => wpAny_call_entry F.slot_dict_eq ht F.entry_dict_eq ?_ (F.args_dict_eq_2 _ _))
    (fun _ hq => call_meets F.slot_str_eq_refl (typeIs_str s b u) F.entry_str_eq (F.args_str_eq_2 _ _) (str_eq_declines_dict b u l (.type "dict") es n dd sl) ⟨ho, hq⟩)
    (fun _ hq => wpAny_of_eq (rfl : isSame (.ref l) (.str b u) = pure false) hq) (.inr hu) h
  show wpAny _ _ (Builtin.Dict.dictSlotArgs "__eq__" ⟨[.ref l, .str b u], []⟩ >>= _) _ _ s
  refine wpAny_bind ?_
  unfold Builtin.Dict.dictSlotArgs
  refine wpAny_bind (wpAny_notOrdered_dict ht ?_)
  show wpAny _ _ (pure (Value.ref l, Value.str b u)) _ _ s
  refine wpAny_pure ?_
  refine wpAny_bind (wpAny_isInstance (T := "str") (typeIs_str s b u) F.sub_str_dict ?_)
  simp only [Bool.not_false, if_true]
  refine wpAny_bind (wpAny_rule ?_)
  exact wpAny_pure ⟨_, rfl, hq⟩
theorem at_dict_str {l : Addr} {o : Obj} {es : Array DictEntry} {n : Nat} (b : Str) (u : Tok) (ho : s.heap.get? l = some o) (hc : o.cls = .type "dict") (hd : o.data = .dict es n) (hu : A.units < cLine) : EqAt A s (.ref l) (.str b u) false := fun prog w E Q h => by
  unfold eqBool
  refine wpAny_holding ?_
  refine wpAny_ite_split (fun hab => absurd (eq_of_beq hab) nofun) (fun _ => ?_)
  exact wpAny_bind (rc_dict_str b u ho hc hd hu prog w E _ (wpAny_truthy_bool h))
end
inductive Tp (K : PySem.W.Frag) (H : Hp) : V → Option Str → Prop
  | non : Tp K H .non none
  | bl (b : Bool) : Tp K H (.bl b) none
  | int (i : Int) : Tp K H (.int i) none
  | str (x : Str) : Tp K H (.str x) (some x)
  | tup {a : Addr} {vs : List V} : SqT K H a vs → Tp K H (.ref a) none
  | lst {a : Addr} {vs : List V} : SqL K H a vs → Tp K H (.ref a) none
  | dic {a : Addr} {kws : List (Key × V)} : H a = some (.dK kws) → Tp K H (.ref a) none
def eq1S (o : Option Str) (z : Str) : Bool := match o with
  | some x => decide (x = z)
  | none => false
theorem Tp.at {X : Cx} {pins : List (Addr × Obj)} {σ : L2.St} {H : Hp} {s : Shared} (I : Inv X pins σ H s) {A : Around} (hu : A.units < cLine) {v : V} {o : Option Str} {u : Value} (h : Tp X.K H v o) (r : RelV v u) (z : Str) (t : Tok) : EqAt A s u (.str z t) (eq1S o z) := by
  cases h with
  | non => cases r; exact EqAt.none_str z t
  | bl b => cases r; exact EqAt.bool_str b z t
  | int i => obtain ⟨t', rfl⟩ := r; exact EqAt.int_str i t' z t
  | str x =>
    obtain ⟨t', rfl⟩ := r
    have e : eq1S (some x) z = (x == z) := by
      show decide (x = z) = (x == z)
      by_cases q : x = z
      · rw [decide_eq_true q, q]; simp
      · rw [decide_eq_false q]; simp [q]
    rw [e]
    exact EqAt.str_str x t' z t
  | tup hs =>
    cases r
    obtain ⟨its, rv, p, _⟩ := I.tuple hs
    exact EqAt.tuple_str z t p hu
  | lst hs =>
    cases r
    obtain ⟨its, rv, p, _⟩ := I.list hs
    exact EqAt.list_str z t p.isList hu
  | dic e =>
    cases r
    obtain ⟨_, hsys, vs, rel, o, es, ep, ho, hx, hd, _⟩ := dk_of I.hok e
    exact at_dict_str z t ho hx.1 hd hu
section
variable {G : Gd} {k : Nat} {E : XK} {N : List Str} {sc : Scope} {X : Cx} {a b : Expr} {ma mb : ME} {pos : Pos}
end
section
variable {M : Mem} {Q : D → Mem → Prop} {y z : Str}
end
end Ly
namespace Ly
open PySem PySem.Spec PyProof.Rows L2
theorem op_neT0 {X : Cx} (hu : X.A.units < cLine) : OpR X (compareOp .NotEq) (fun x y H Q => ∃ a b xs, x = .ref a ∧ y = .ref b ∧ SqT X.K H a xs ∧ SqT X.K H b [] ∧ Q (.bl (!xs.isEmpty)) H) := by
  intro pins s σ H x y v u Q I rx ry h
  obtain ⟨a, b, xs, rfl, rfl, ha, hb, q⟩ := h
  cases (show v = Value.ref a from rx)
  cases (show u = Value.ref b from ry)
  obtain ⟨us, r1, p1, _⟩ := I.tuple ha
  obtain ⟨ws, r2, p2, _⟩ := I.tuple hb
  cases r2
  have e : (!((List.range (min us.toArray.size ([] : List Value).toArray.size)).all (fun _ => true) && us.toArray.size == ([] : List Value).toArray.size)) = !xs.isEmpty := by
    have hl : us.length = xs.length := r1.length.symm
    cases xs with
    | nil =>
      cases us with
      | nil => rfl
      | cons _ _ => cases hl
    | cons x xs =>
      cases us with
      | nil => cases hl
      | cons _ _ => rfl
  refine SeqAt.RcNeAt.tuples (e := fun _ => true) p1 p2 hu (fun j h1 h2 => absurd h2 (by simp)) X.prog X.w _ _ ?_
  rw [e]
  exact ⟨.bl (!xs.isEmpty), H, I, rfl, q⟩
def opNeE (d e : D) (M : Mem) : Res D := match d, e with
  | .tup ds, .tup [] => .ok (.bl (!ds.isEmpty)) M
  | .ftu ds, .tup [] => .ok (.bl (!ds.isEmpty)) M
  | _, _ => .bad
theorem rs_neE {K : PySem.W.Frag} : RS2 K (fun x y H Q => ∃ a b xs, x = .ref a ∧ y = .ref b ∧ SqT K H a xs ∧ SqT K H b [] ∧ Q (.bl (!xs.isEmpty)) H) opNeE := by
  intro E L H M d e x y Q m rd re h
  unfold opNeE at h
  split at h
  · rename_i ds
    obtain ⟨a, vs, rfl, q1, r1⟩ := rd.tup_inv
    obtain ⟨b, ws, rfl, q2, r2⟩ := re.tup_inv
    cases r2
    refine ⟨a, b, vs, rfl, rfl, q1, q2, ?_⟩
    have e : vs.isEmpty = ds.isEmpty := by
      cases r1 <;> rfl
    rw [e]
    exact h.end_ m (.bl _)
  · rename_i ds
    obtain ⟨a, vs, rfl, q1, r1⟩ := rd.ftu_inv
    obtain ⟨b, ws, rfl, q2, r2⟩ := re.tup_inv
    cases r2
    refine ⟨a, b, vs, rfl, rfl, q1, q2, ?_⟩
    have e : vs.isEmpty = ds.isEmpty := by
      cases r1 <;> rfl
    rw [e]
    exact h.end_ m (.bl _)
  · exact h.elim
def bI (b : Bool) : Int := if b = true then 1 else 0
theorem op_addBI {X : Cx} : OpR X (binaryOp .Add) (fun x y H Q => ∃ b j, x = .bl b ∧ y = .int j ∧ Q (.int (bI b + j)) H) := by
  intro pins s σ H x y v u Q I rx ry h
  obtain ⟨b, j, rfl, rfl, q⟩ := h
  cases (show v = Value.bool b from rx)
  obtain ⟨t', rfl⟩ := ry
  exact IntBool.add_bool_int ⟨.int (bI b + j), H, I.tok _, ⟨_, rfl⟩, q⟩
theorem op_subBI {X : Cx} : OpR X (binaryOp .Sub) (fun x y H Q => ∃ b j, x = .bl b ∧ y = .int j ∧ Q (.int (bI b - j)) H) := by
  intro pins s σ H x y v u Q I rx ry h
  obtain ⟨b, j, rfl, rfl, q⟩ := h
  cases (show v = Value.bool b from rx)
  obtain ⟨t', rfl⟩ := ry
  exact IntBool.sub_bool_int ⟨.int (bI b - j), H, I.tok _, ⟨_, rfl⟩, q⟩
theorem op_subIB {X : Cx} : OpR X (binaryOp .Sub) (fun x y H Q => ∃ i b, x = .int i ∧ y = .bl b ∧ Q (.int (i - bI b)) H) := by
  intro pins s σ H x y v u Q I rx ry h
  obtain ⟨i, b, rfl, rfl, q⟩ := h
  obtain ⟨t', rfl⟩ := rx
  cases (show u = Value.bool b from ry)
  exact IntBool.sub_int_bool ⟨.int (i - bI b), H, I.tok _, ⟨_, rfl⟩, q⟩
def opAddB (d e : D) (M : Mem) : Res D := match d, e with
  | .bl b, .int j => .ok (.int (bI b + j)) M
  | d, e => opAdd d e M
theorem rs_addB {K : PySem.W.Frag} : RS2 K (fun x y H Q => rAddA K x y H Q ∨ ∃ b j, x = .bl b ∧ y = .int j ∧ Q (.int (bI b + j)) H) opAddB := by
  intro E L H M d e x y Q m rd re h
  unfold opAddB at h
  split at h
  · cases rd; cases re
    exact .inr ⟨_, _, rfl, rfl, h.end_ m (.int _)⟩
  · exact .inl (rs_add E L H M _ _ _ _ Q m rd re h)
def opSubB (d e : D) (M : Mem) : Res D := match d, e with
  | .bl b, .int j => .ok (.int (bI b - j)) M
  | .int i, .bl b => .ok (.int (i - bI b)) M
  | d, e => opSub d e M
theorem rs_subB {K : PySem.W.Frag} : RS2 K (fun x y H Q => (rI0 (fun i j => .int (i - j)) x y H Q ∨ ∃ b j, x = .bl b ∧ y = .int j ∧ Q (.int (bI b - j)) H) ∨ ∃ i b, x = .int i ∧ y = .bl b ∧ Q (.int (i - bI b)) H) opSubB := by
  intro E L H M d e x y Q m rd re h
  unfold opSubB at h
  split at h
  · cases rd; cases re
    exact .inl (.inr ⟨_, _, rfl, rfl, h.end_ m (.int _)⟩)
  · cases rd; cases re
    exact .inr ⟨_, _, rfl, rfl, h.end_ m (.int _)⟩
  · exact .inl (.inl (rs_sub E L H M _ _ _ _ Q m rd re h))
section
variable {G : Gd} {k : Nat} {E : XK} {N : List Str} {sc : Scope} {X : Cx} {a b : Expr} {ma mb : ME} {pos : Pos}
theorem ct_neE (c : Cq G k E N sc X) (ha : PE X a (tD G.K E ma)) (hb : PE X b (tD G.K E mb)) : PT X (.Compare a [.NotEq] [b] pos) (tTD G.K E (mTest (mBin opNeE ma mb))) := by
  obtain rfl := c.g
  exact ct_cmp (op_neT0 (by have := hu_of c.room; omega)) rs_neE ha hb (nomark b)
theorem ce_subB (c : Cq G k E N sc X) (ha : PE X a (tD G.K E ma)) (hb : PE X b (tD G.K E mb)) : PE X (.BinOp a .Sub b pos) (tD G.K E (mBin opSubB ma mb)) := by
  obtain rfl := c.g
  exact ce_op ((op_sub.or op_subBI).or op_subIB) rs_subB ha hb
end
section
variable {M : Mem} {Q : D → Mem → Prop} {b : Bool} {i j : Int} {ds es : List D} {x y : Str}
theorem go_addBT : Go (opAddB (.tup ds) (.tup es) M) Q = Go (opAdd (.tup ds) (.tup es) M) Q := id rfl
theorem go_subBI : Go (opSubB (.bl b) (.int j) M) Q = Q (.int (bI b - j)) M := id rfl
theorem go_subBII : Go (opSubB (.int i) (.int j) M) Q = Q (.int (i - j)) M := id rfl
end
end Ly
namespace Ly
open PySem PySem.Spec PyProof.Rows L2
end Ly
namespace Ly
open PySem PySem.Spec PyProof.Rows L2
section
variable {G : Gd} {k : Nat} {E : XK} {N : List Str} {sc : Scope} {X : Cx} {e tg : Expr} {pos : Pos} {ma : ME} {g : GD} {ts vs : List Expr} {kt k2 : Nat} {pt pt2 : Pos}
end
end Ly
namespace Ly
open PySem PySem.Spec PyProof.Rows L2
section
variable {G : Gd} {k : Nat} {E : XK} {N : List Str} {sc : Scope} {X : Cx} {e : Expr} {es : List Expr} {mr : MA} {pos p : Pos} {kp : Bool}
end
section
variable {K : PySem.W.Frag} {L : Wd} {H : Hp}
end
section
variable {G : Gd} {k : Nat} {E : XK} {N : List Str} {sc : Scope} {X : Cx} {pos : Pos}
section
variable {env : Ly.Env} {M : Mem} {Q : D → Mem → Prop} {kvs : List (Key × D)} {n i j t : Nat} {s z : Str}
end
end
end Ly
namespace Ly
open PySem PySem.Spec PyProof.Rows L2
section
variable {G : Gd} {k : Nat} {E : XK} {N : List Str} {sc : Scope} {X : Cx} {a b e o : Expr} {es : List Expr} {ma mb mo : ME} {mr : MA} {pos p2 apos cpos : Pos}
end
end Ly
namespace L2
open PySem PySem.Spec PyProof.Rows
end L2
namespace Ly
open PySem PySem.Spec PyProof.Rows L2
section
variable {G : Gd} {k : Nat} {E : XK} {N : List Str} {sc : Scope} {X : Cx} {e e2 : Expr} {mr : MA} {p p2 q pos : Pos} {kp : Bool}
end
end Ly
namespace Ly
open PySem PySem.Spec PyProof.Rows L2
section
variable {G : Gd} {k : Nat} {E : XK} {N : List Str} {sc : Scope} {X : Cx} {pos : Pos}
end
end Ly
namespace L2
open PySem PySem.Spec PyProof.Rows
end L2
namespace Ly
open PySem PySem.Spec PyProof.Rows L2
section
variable {K : PySem.W.Frag} {L : Wd} {H : Hp}
theorem IsFs.get : ∀ {fs : List (Str × D)} {gs : List (Str × V)} {f : Str} {d : D}, IsFs K L H fs gs → fs.lookup f = some d → ∃ v, gs.lookup f = some v ∧ Is K L H d v
  | _, _, _, _, .nil, e => by cases e
  | (k, x) :: fs, (_, v) :: gs, f, d, .cons r t, e => by
    simp only [List.lookup] at e ⊢
    split at e
    · cases e
      exact ⟨v, rfl, r⟩
    · exact IsFs.get t e
theorem IsFs.none : ∀ {fs : List (Str × D)} {gs : List (Str × V)} {f : Str}, IsFs K L H fs gs → fs.lookup f = none → gs.lookup f = none
  | _, _, _, .nil, e => rfl
  | (k, x) :: fs, (_, v) :: gs, f, .cons r t, e => by
    simp only [List.lookup] at e ⊢
    split at e
    · cases e
    · exact IsFs.none t e
theorem IsFs.length : ∀ {fs : List (Str × D)} {gs : List (Str × V)}, IsFs K L H fs gs → fs.length = gs.length
  | _, _, .nil => rfl
  | _, _, .cons _ b => by rw [List.length_cons, List.length_cons, IsFs.length b]
end
def putFD (f : Str) (d : D) : List (Str × D) → List (Str × D)
  | [] => [(f, d)]
  | (g, x) :: r => if g = f then (g, d) :: r else (g, x) :: putFD f d r
theorem IsFs.put {K : PySem.W.Frag} {L : Wd} {H : Hp} {f : Str} {d : D} {v : V} (r : Is K L H d v) : ∀ {fs : List (Str × D)} {gs : List (Str × V)}, IsFs K L H fs gs → IsFs K L H (putFD f d fs) (putF f v gs)
  | _, _, .nil => .cons r .nil
  | (k, x) :: fs, (_, w) :: gs, .cons a t => by
    show IsFs K L H (if k = f then (k, d) :: fs else (k, x) :: putFD f d fs) (if k = f then (k, v) :: gs else (k, w) :: putF f v gs)
    split
    · exact .cons r t
    · exact .cons a (IsFs.put r t)
section
variable {G : Gd} {k j : Nat} {E : XK} {N : List Str} {sc : Scope} {X : Cx} {a o e : Expr} {ma mo mv : ME} {pos pos' apos : Pos} {C f : Str} {fl : List Str}
end
end Ly
namespace Ly
open PySem PySem.Spec PyProof.Rows L2
structure Ent (G : Gd) (j : Nat) (fa : Addr) (ps : List Str) (n : Nat) (ks : List Str) (gD : List D → List D → List D) (f : MF) : Prop where
  ex : ∃ (fd : FuncData) (g : List Value → List Value → List Value) (gV : List V → List V → List V), FnG G j fa fd ps (spD G.K ps.length f) ∧ KBn G.K fd ps n ks g gV ∧
    ∀ {L : Wd} {H : Hp} {ds es : List D} {vs zs : List V}, ds.length = n → es.length = ks.length → IsL G.K L H ds vs → IsL G.K L H es zs → IsL G.K L H (gD ds es) (gV vs zs) ∧ (gV vs zs).length = ps.length
section
variable {G : Gd} {k j n m : Nat} {E : XK} {N ps ks : List Str} {sc : Scope} {X : Cx} {a o e : Expr} {es : List Expr} {kws : List Keyword} {ma mo mv : ME} {mr mk : MA} {pos p apos : Pos} {C x : Str} {fl : List Str} {gD : List D → List D → List D} {f : MF} {fa : Addr}
structure Mtd (G : Gd) (j : Nat) (C x : Str) (ps : List Str) (n : Nat) (ks : List Str) (gD : List D → List D → List D) (f : MF) : Prop where
  en : Ent G j (He.ma G.K (He.ga G.K C) x) ps n ks gD f
  me : Meth G.K (He.ga G.K C) x (He.ma G.K (He.ga G.K C) x)
end
end Ly
namespace Ly
open PySem PySem.Spec PyProof.Rows L2
def tyNs : List String := ["NoneType", "bool", "int", "str", "tuple", "list", "dict"]
section
variable {G : Gd} {k : Nat} {E : XK} {N : List Str} {sc : Scope} {X : Cx} {a e : Expr} {es : List Expr} {ma : ME} {mr : MA} {pos p p2 : Pos} {C : Str} {cs : List Str}
end
end Ly
namespace PySem.W
open PySem PySem.Calls PyProof.Rows Builtin
section
variable {prog : Program} {w : World} {A : Around} {E : Value → Shared → Prop} {s : Shared} {K : Frag} {C x y f : Addr} {ox oy : Obj} {od od' : Option Obj}
end
end PySem.W
namespace Ly
open PySem PySem.Spec PyProof.Rows L2
section
variable {G : Gd} {k j n : Nat} {E : XK} {N ps : List Str} {sc : Scope} {X : Cx} {a b : Expr} {ma mb : ME} {pos : Pos} {C : Str} {fl : List Str} {gD : List D → List D → List D} {f : MF} {fa : Addr}
end
end Ly
namespace Ly
open PySem PySem.Spec PyProof.Rows L2
section
variable {G : Gd} {j n : Nat} {N ps ks : List Str} {sc : Scope} {x qual : Str} {params : Arguments} {body : List Stmt} {dvs : List V} {kws : List (Str × V)} {fa : Addr} {fd : FuncData} {f : MF}
end
section
variable {G : Gd} {k j : Nat} {E : XK} {N : List Str} {sc : Scope} {X : Cx} {value o1 o2 : Expr} {mv m1 m2 : ME} {pos p1 p2 p3 : Pos} {C f1 f2 : Str} {fl : List Str}
end
end Ly
namespace Ly
open PySem PySem.W PySem.Calls PySem.Builtin PySem.Spec PyProof.Rows L2 He HandSHeadRun
end Ly
namespace Ly
open PySem PySem.Spec PyProof.Rows L2
section
variable {G : Gd} {k : Nat} {E : XK} {N : List Str} {sc : Scope} {X : Cx} {a b o e : Expr} {es : List Expr} {ma mb mo : ME} {mr : MA} {pos p apos cpos : Pos}
end
section
variable {G : Gd} {E : XK} {X : Cx} {pos : Pos} {ma : ME} {g : GD} {ts vs : List Expr} {kt k2 : Nat} {pt pt2 : Pos}
end
end Ly
namespace Ly
open PySem PySem.Spec PyProof.Rows L2
section
variable {G : Gd} {k : Nat} {E : XK} {N : List Str} {sc : Scope} {X : Cx} {x m : Str} {B new ini : String} {bm : List Value} {j : Nat} {p p2 pos pos' : Pos}
end
def E0 : XK := fun _ _ _ => False
section
variable {G : Gd} {k j n : Nat} {E : XK} {N ps : List Str} {sc : Scope} {X : Cx} {o e : Expr} {es : List Expr} {mo : ME} {mr : MA} {pos apos : Pos} {C x : Str} {fl : List Str} {gD : List D → List D → List D} {f : MF} {fa : Addr} {W : WX}
end
section
variable {G : Gd} {k j n : Nat} {E : XK} {N ps : List Str} {sc : Scope} {X : Cx} {o e : Expr} {es : List Expr} {mo : ME} {mr : MA} {C x X0 A B ne nt : Str} {fl : List Str} {gD : List D → List D → List D} {f : MF} {i it : Nat}
end
end Ly
namespace L2
open PySem PySem.Spec PyProof.Rows
end L2
namespace Ly
open PySem PySem.Spec PyProof.Rows L2
theorem cmulB {i j : Int} {a b : Nat} (ha : i.natAbs < 2 ^ a) (hb : j.natAbs < 2 ^ b) (h : a + b < 999990) : CMulW i j := wide_mul (a := a + 1) (b := b + 1) (Nat.lt_of_lt_of_le ha (Nat.pow_le_pow_right (by omega) (by omega))) (Nat.lt_of_lt_of_le hb (Nat.pow_le_pow_right (by omega) (by omega))) (by omega) (by omega) (by omega)
section
variable {Q : D → Mem → Prop} {S : Env → Mem → Prop} {R : D → Mem → Prop} {env : Env} {M : Mem} {a b o : ME} {r mk : MA} {i j : Int} {C f g x : Str} {n m : Nat} {gD : List D → List D → List D} {F : MF} {fs : List (Str × D)} {d : D} {z : Bool}
end
end Ly
namespace L2
open PySem PySem.Spec PyProof.Rows
end L2
namespace Ly
open PySem PySem.Spec PyProof.Rows L2
section
variable {G : Gd} {k : Nat} {E : XK} {N : List Str} {sc : Scope} {X : Cx} {e o : Expr} {es : List Expr} {mo : ME} {mr : MA} {apos cpos : Pos}
end
end Ly
namespace PySem.W
open PySem PySem.Calls PyProof.Rows Builtin
section
variable {M : Model} {A : Around} {E : Value → Shared → Prop} {s : Shared} {K : Frag} {C x f : Addr} {ox : Obj} {od : Option Obj}
end
end PySem.W
namespace PySem
open PySem.Calls PyProof.Rows Builtin Builtin.List
section
variable {prog : Program} {w : World}
end
end PySem
namespace Ly
open PySem PySem.Spec PyProof.Rows L2
mutual
def D.dep : D → Nat
  | .tup ds => depL ds + 1
  | _ => 0
def depL : List D → Nat
  | [] => 0
  | d :: ds => max d.dep (depL ds)
end
mutual
def D.sh : D → Bool
  | .non => true
  | .bl _ => true
  | .int _ => true
  | .str _ => true
  | .obj _ _ => true
  | .tup ds => shL ds
  | _ => false
def shL : List D → Bool
  | [] => true
  | d :: ds => d.sh && shL ds
end
section
variable {C : Str} {gD : List D → List D → List D} {F : MF} {M : Mem}
end
section
variable {X : Cx} {pins : List (Addr × Obj)} {σ : L2.St} {H : Hp} {s : Shared} {L : Wd}
theorem lk_none (I : Inv X pins σ H s) {a : Addr} {o : Obj} (h : X.K.lookup a = some o) : H a = none := (I.bs a o (I.ok.mod.kin a o h)).2
theorem isTup_sq (I : Inv X pins σ H s) {ds : List D} {v : V} (h : Is X.K L H (.tup ds) v) : ∃ a vs, v = .ref a ∧ SqT X.K H a vs ∧ IsL X.K L H ds vs := by
  cases h with
  | tup h1 h2 h3 => exact ⟨_, _, rfl, .inl (.inl h1), h3⟩
  | tupK h1 h3 => exact ⟨_, _, rfl, .inr h1, h3⟩
mutual
theorem is_dep (I : Inv X pins σ H s) : ∀ {d d' : D} {v : V}, Is X.K L H d v → Is X.K L H d' v → d.sh = true → d'.sh = true → d.dep = d'.dep
  | .tup ds, d', v, h, h', g, g' => by
    obtain ⟨a, vs, rfl, q, r⟩ := isTup_sq I h
    cases d' with
    | tup es =>
      obtain ⟨a', vs', e, q', r'⟩ := isTup_sq I h'
      cases e
      have e2 := I.tuple_inj q q'
      subst e2
      show depL ds + 1 = depL es + 1
      rw [is_depL I r r' g g']
    | obj c fs =>
      cases h' with
      | obj e1 e2 e3 =>
        rcases q with q | ⟨o, _, _, q, _⟩
        · rcases q with q | ⟨o, q⟩ <;> rw [q] at e1 <;> cases e1
        · rw [lk_none I q] at e1
          cases e1
    | non => cases h'
    | bl _ => cases h'
    | int _ => cases h'
    | str _ => cases h'
    | ty _ => cases g'
    | adr _ => cases g'
    | lst _ => cases g'
    | scr _ => cases g'
    | ftu _ => cases g'
    | dic _ => cases g'
    | ref _ => cases g'
  | .obj c fs, .tup es, v, h, h', g, g' => by
    obtain ⟨a, vs, rfl, q, r⟩ := isTup_sq I h'
    cases h with
    | obj e1 e2 e3 =>
      rcases q with q | ⟨o, _, _, q, _⟩
      · rcases q with q | ⟨o, q⟩ <;> rw [q] at e1 <;> cases e1
      · rw [lk_none I q] at e1
        cases e1
  | .non, .tup es, v, h, h', g, g' => by cases h; cases h'
  | .bl _, .tup es, v, h, h', g, g' => by cases h; cases h'
  | .int _, .tup es, v, h, h', g, g' => by cases h; cases h'
  | .str _, .tup es, v, h, h', g, g' => by cases h; cases h'
  | .ty _, _, v, h, h', g, g' => by cases g
  | .adr _, _, v, h, h', g, g' => by cases g
  | .lst _, _, v, h, h', g, g' => by cases g
  | .scr _, _, v, h, h', g, g' => by cases g
  | .ftu _, _, v, h, h', g, g' => by cases g
  | .dic _, _, v, h, h', g, g' => by cases g
  | .ref _, _, v, h, h', g, g' => by cases g
  | .non, .non, v, h, h', g, g' => rfl
  | .non, .bl _, v, h, h', g, g' => rfl
  | .non, .int _, v, h, h', g, g' => rfl
  | .non, .str _, v, h, h', g, g' => rfl
  | .non, .obj _ _, v, h, h', g, g' => rfl
  | .bl _, .non, v, h, h', g, g' => rfl
  | .bl _, .bl _, v, h, h', g, g' => rfl
  | .bl _, .int _, v, h, h', g, g' => rfl
  | .bl _, .str _, v, h, h', g, g' => rfl
  | .bl _, .obj _ _, v, h, h', g, g' => rfl
  | .int _, .non, v, h, h', g, g' => rfl
  | .int _, .bl _, v, h, h', g, g' => rfl
  | .int _, .int _, v, h, h', g, g' => rfl
  | .int _, .str _, v, h, h', g, g' => rfl
  | .int _, .obj _ _, v, h, h', g, g' => rfl
  | .str _, .non, v, h, h', g, g' => rfl
  | .str _, .bl _, v, h, h', g, g' => rfl
  | .str _, .int _, v, h, h', g, g' => rfl
  | .str _, .str _, v, h, h', g, g' => rfl
  | .str _, .obj _ _, v, h, h', g, g' => rfl
  | .obj _ _, .non, v, h, h', g, g' => rfl
  | .obj _ _, .bl _, v, h, h', g, g' => rfl
  | .obj _ _, .int _, v, h, h', g, g' => rfl
  | .obj _ _, .str _, v, h, h', g, g' => rfl
  | .obj _ _, .obj _ _, v, h, h', g, g' => rfl
  | .non, .ty _, v, h, h', g, g' => by cases g'
  | .non, .adr _, v, h, h', g, g' => by cases g'
  | .non, .lst _, v, h, h', g, g' => by cases g'
  | .non, .scr _, v, h, h', g, g' => by cases g'
  | .non, .dic _, v, h, h', g, g' => by cases g'
  | .non, .ref _, v, h, h', g, g' => by cases g'
  | .bl _, .ty _, v, h, h', g, g' => by cases g'
  | .bl _, .adr _, v, h, h', g, g' => by cases g'
  | .bl _, .lst _, v, h, h', g, g' => by cases g'
  | .bl _, .scr _, v, h, h', g, g' => by cases g'
  | .bl _, .dic _, v, h, h', g, g' => by cases g'
  | .bl _, .ref _, v, h, h', g, g' => by cases g'
  | .int _, .ty _, v, h, h', g, g' => by cases g'
  | .int _, .adr _, v, h, h', g, g' => by cases g'
  | .int _, .lst _, v, h, h', g, g' => by cases g'
  | .int _, .scr _, v, h, h', g, g' => by cases g'
  | .int _, .dic _, v, h, h', g, g' => by cases g'
  | .int _, .ref _, v, h, h', g, g' => by cases g'
  | .str _, .ty _, v, h, h', g, g' => by cases g'
  | .str _, .adr _, v, h, h', g, g' => by cases g'
  | .str _, .lst _, v, h, h', g, g' => by cases g'
  | .str _, .scr _, v, h, h', g, g' => by cases g'
  | .str _, .dic _, v, h, h', g, g' => by cases g'
  | .str _, .ref _, v, h, h', g, g' => by cases g'
  | .obj _ _, .ty _, v, h, h', g, g' => by cases g'
  | .obj _ _, .adr _, v, h, h', g, g' => by cases g'
  | .obj _ _, .lst _, v, h, h', g, g' => by cases g'
  | .obj _ _, .scr _, v, h, h', g, g' => by cases g'
  | .obj _ _, .dic _, v, h, h', g, g' => by cases g'
  | .obj _ _, .ref _, v, h, h', g, g' => by cases g'
theorem is_depL (I : Inv X pins σ H s) : ∀ {ds ds' : List D} {vs : List V}, IsL X.K L H ds vs → IsL X.K L H ds' vs → shL ds = true → shL ds' = true → depL ds = depL ds'
  | [], [], _, _, _, _, _ => rfl
  | [], _ :: _, _, h, h', _, _ => by cases h; cases h'
  | _ :: _, [], _, h, h', _, _ => by cases h; cases h'
  | d :: ds, e :: es, _, h, h', g, g' => by
    cases h with
    | cons r rs =>
      cases h' with
      | cons r' rs' =>
        have g1 : (d.sh && shL ds) = true := g
        have g2 : (e.sh && shL es) = true := g'
        show max d.dep (depL ds) = max e.dep (depL es)
        rw [is_dep I r r' (and_l g1) (and_l g2), is_depL I rs rs' (and_r g1) (and_r g2)]
end
def Grd (K : PySem.W.Frag) (L : Wd) (H : Hp) (g : List Code) (n : Nat) : Prop := ∀ id v rest kw, Code.builtin id ⟨v :: rest, kw⟩ ∈ g → ∃ a d, v = Value.ref a ∧ Is K L H d (V.ref a) ∧ d.sh = true ∧ n < d.dep
theorem Grd.step {K : PySem.W.Frag} {H' : Hp} {L' : Wd} {g : List Code} {n : Nat} (h : Grd K L H g n) (s : Step L H L' H') : Grd K L' H' g n := fun id v rest kw hm =>
  let ⟨a, d, e, r, q, z⟩ := h id v rest kw hm
  ⟨a, d, e, r.step s, q, z⟩
theorem Grd.mono {K : PySem.W.Frag} {g : List Code} {n m : Nat} (h : Grd K L H g n) (hm : m ≤ n) : Grd K L H g m := fun id v rest kw hx =>
  let ⟨a, d, e, r, q, z⟩ := h id v rest kw hx
  ⟨a, d, e, r, q, by omega⟩
theorem Grd.clear (I : Inv X pins σ H s) {g : List Code} {n : Nat} (h : Grd X.K L H g n) {b : Addr} {d : D} (r : Is X.K L H d (V.ref b)) (q : d.sh = true) (hn : d.dep ≤ n) : Clear g b := fun id v rest kw hm e => by
  obtain ⟨a, d', e', r', q', z⟩ := h id v rest kw hm
  rw [e] at e'
  cases e'
  have := is_dep I r r' q q'
  omega
theorem Grd.push {K : PySem.W.Frag} {g : List Code} {n : Nat} (h : Grd K L H g (n + 1)) {a : Addr} {d : D} (r : Is K L H d (V.ref a)) (q : d.sh = true) (hd : n < d.dep) (id : String) (rest : List Value) : Grd K L H (.builtin id ⟨.ref a :: rest, []⟩ :: g) n := fun id' v rest' kw hm => by
  rcases List.mem_cons.mp hm with e | hm
  · cases e
    exact ⟨a, d, rfl, r, q, hd⟩
  · obtain ⟨a', d', e', r', q', z⟩ := h id' v rest' kw hm
    exact ⟨a', d', e', r', q', by omega⟩
end
section
variable {X : Cx} {pins : List (Addr × Obj)} {σ : L2.St} {C : Str} {j : Nat} {ps : List Str} {gD : List D → List D → List D} {F : MF} {E : XK}
variable (T : ∀ gs, Mtd { gdOf X with gs := gs } j C "__repr__" ps 1 [] gD F) (pass : Passes (L2.CX X.prog X.w) X E)
include T pass
end
end Ly
namespace Ly
open PySem PySem.Spec PyProof.Rows L2
section
variable {X : Cx} {C : Str} {j : Nat} {ps : List Str} {gD : List D → List D → List D} {F : MF} {E : XK}
end
section
variable {G : Gd} {j k : Nat} {E : XK} {N : List Str} {sc : Scope} {X : Cx} {e : Expr} {es : List Expr} {mr : MA} {pos p : Pos} {C : Str} {ps : List Str} {gD : List D → List D → List D} {F : MF}
end
end Ly
namespace Ly
open PySem PySem.Spec PyProof.Rows L2
section
variable {G : Gd} {k : Nat} {E : XK} {N : List Str} {sc : Scope} {X : Cx} {e : Expr} {m : ME} {pos : Pos}
end
section
variable {env : Env} {M : Mem} {Q : D → Mem → Prop} {m : ME} {ms : List ME} {acc : Str}
end
end Ly
namespace L2
open PySem PySem.Spec PyProof.Rows
end L2
namespace Ly
open PySem PySem.Spec PyProof.Rows L2
section
variable {G : Gd} {k : Nat} {E : XK} {N : List Str} {sc : Scope} {X : Cx} {es : List Expr} {pos : Pos}
end
end Ly
namespace PySem
open PySem.Calls PyProof.Rows Builtin
open AutoSeq1 (wpAny_loadPart')
open MeetsSeq MeetsSeq2 MeetsSeq3 SeqRoads2
section
variable {prog : Program} {w : World}
end
end PySem
namespace Ly
open PySem PySem.Spec PyProof.Rows L2
mutual
/-- things that are known by what they are -/
def D.flat (C : Str) : D → Bool
  | .non => true
  | .bl _ => true
  | .int _ => true
  | .str _ => true
  | .obj c fs => decide (c = C) && flatF C fs
  | .tup ds => flatL C ds
  | _ => false
def flatL (C : Str) : List D → Bool
  | [] => true
  | d :: ds => d.flat C && flatL C ds
def flatF (C : Str) : List (Str × D) → Bool
  | [] => true
  | (_, d) :: fs => d.flat C && flatF C fs
end
section
variable {X : Cx} {pins : List (Addr × Obj)} {σ : L2.St} {H : Hp} {s : Shared} {L : Wd}
end
noncomputable section
variable (C : Str) (gD : List D → List D → List D) (F : MF) (M : Mem)
end
section
variable {X : Cx} {pins : List (Addr × Obj)} {σ : L2.St} {H : Hp} {s : Shared} {L : Wd} {C : Str}
end
section
variable {X : Cx} {pins : List (Addr × Obj)} {σ : L2.St} {C : Str} {j : Nat} {ps : List Str} {gD : List D → List D → List D} {F : MF} {E : XK} (T : Mtd (gdOf X) j C "__eq__" ps 2 [] gD F) (pass : Passes (L2.CX X.prog X.w) X E)
include T pass
end
end Ly
namespace Ly
open PySem PySem.Spec PyProof.Rows L2
section
variable {X : Cx} {C : Str} {j : Nat} {ps : List Str} {gD : List D → List D → List D} {F : MF} {E : XK} (T : Mtd (gdOf X) j C "__eq__" ps 2 [] gD F) (pass : Passes (L2.CX X.prog X.w) X E)
include T pass
end
section
variable {G : Gd} {k j n : Nat} {E : XK} {N ps : List Str} {sc : Scope} {X : Cx} {a b : Expr} {ma mb : ME} {pos : Pos} {C : Str} {gD : List D → List D → List D} {f : MF}
end
end Ly
namespace L2
open PySem PySem.Spec PyProof.Rows
section
variable {P : Program} {w : World} {K : PySem.W.Frag} {mg : Str → Option Value} {base : Heap} {qual y z f g m : Str} {params : Arguments} {sc : Scope} {kws : List (Str × V)} {C B fa : Addr} {fd : FuncData} {k j : Nat} {p1 p2 p3 p4 p5 p6 p7 p8 p9 p10 p11 p12 p13 p14 : Pos}
end
end L2
namespace Ly
open PySem PySem.Spec PyProof.Rows L2
section
variable {G : Gd} {j k : Nat} {E : XK} {N : List Str} {sc : Scope} {X : Cx} {e : Expr} {es : List Expr} {x f g : Str} {mr : MA} {p pos pos' : Pos}
end
end Ly
namespace L2
open PySem PySem.Spec PyProof.Rows
abbrev Hdl := Value × Option Nat × (Addr → Value → Option Addr → TS)
section
variable {X : Cx} {body : List Stmt} {h₀ : ExceptHandler} {hds : List ExceptHandler} {l : List Hdl} {pos : Pos} {tb : WX → TS} {Wout : WX}
end
end L2
namespace L2
open PySem PySem.Spec PyProof.Rows
def DicY (H : Hp) (d : Option Addr) : Prop := d = none ∨ HasD H d
section
variable {X : Cx} {a D : Addr} {oe : Obj} {d : Option Addr} {pn pins : List (Addr × Obj)} {σ : St} {H : Hp} {s : Shared}
end
end L2
namespace Ly
open PySem PySem.Spec PyProof.Rows L2
structure Sx where
  i : Option Nat
  a : Addr
  xc : Xc
  cls : Value
  d : Option Addr
structure OkX (K : PySem.W.Frag) (S : Sx) (L : Wd) (H : Hp) (σ : L2.St) : Prop where
  at_ : ∀ i, S.i = some i → σ[i]? = some (some (.ref S.a))
  xc : XcIs K L H S.xc S.cls S.d
theorem OkX.step {K : PySem.W.Frag} {S : Sx} {L L' : Wd} {H H' : Hp} {σ : L2.St} (h : OkX K S L H σ) (s : Step L H L' H') : OkX K S L' H' σ := ⟨h.at_, h.xc.step s⟩
theorem OkX.set {K : PySem.W.Frag} {S : Sx} {L : Wd} {H : Hp} {σ : L2.St} {j : Nat} {v : Option V} (h : OkX K S L H σ) (hj : S.i ≠ some j) : OkX K S L H (σ.set j v) := ⟨fun i e => by rw [List.getElem?_set_ne (fun z => hj (by rw [e, z]))]; exact h.at_ i e, h.xc⟩
theorem OkX.dic {K : PySem.W.Frag} {S : Sx} {L : Wd} {H : Hp} {σ : L2.St} (h : OkX K S L H σ) : DicY H S.d := by
  have h2 := h.xc.2
  split at h2
  · exact .inl h2
  · obtain ⟨dd, gs, e, q, _⟩ := h2
    exact .inr ⟨dd, gs, e, q⟩
section
variable (K : PySem.W.Frag) (S : Sx)
def FinX (L : Wd) (H : Hp) (r : ResS) (N : Ends) : Prop := match r with
  | .nx env M => ∀ L' H' σ', Step L H L' H' → MemIs K L' H' M → EnvIs K L' H' env σ' → OkX K S L' H' σ' → N.nx σ' H'
  | _ => False
def sX (m : MS) : TS := fun N σ H => ∃ env L M, EnvIs K L H env σ ∧ MemIs K L H M ∧ OkX K S L H σ ∧ FinX K S L H (m env M) N
end
section
variable {K : PySem.W.Frag} {S : Sx} {L L1 : Wd} {H H1 : Hp}
theorem FinX.step {r : ResS} {N : Ends} (s : Step L H L1 H1) (h : FinX K S L H r N) : FinX K S L1 H1 r N := by
  cases r with
  | nx env M => exact fun L' H' σ' s' m e o => h L' H' σ' (s.trans s') m e o
  | _ => exact h
theorem FinX.bindS {α β : Type} {Rl : Wd → Hp → α → β → Prop} {r : Res α} {f : α → Mem → ResS} {N : Ends} (h : FinX K S L H (r.bindS f) N) :
    Fin Rl K E0 L H r (fun b H1 => ∃ a M1 L1, Step L H L1 H1 ∧ MemIs K L1 H1 M1 ∧ Rl L1 H1 a b ∧ FinX K S L1 H1 (f a M1) N) := by
  cases r with
  | ok a M => exact fun L' H' b s m q => ⟨a, M, L', s, m, q, FinX.step s h⟩
  | exc x M => exact h.elim
  | bad => exact h
variable {X : Cx} {a b e : Expr} {ma mb : ME} {ta tb : MT} {mr : MA} {es rest : List Expr} {pos p1 p2 : Pos}
end
end Ly
namespace Ly
open PySem PySem.Spec PyProof.Rows L2
theorem lookup_mem {β : Type} {c : Str} {b : β} : ∀ {tb : List (Str × β)}, tb.lookup c = some b → (c, b) ∈ tb
  | [], h => by cases h
  | (c', b') :: tb, h => by
    rw [List.lookup_cons] at h
    split at h
    · rename_i q
      cases h
      rw [beq_iff_eq.mp q]
      exact List.mem_cons_self
    · exact List.mem_cons_of_mem _ (lookup_mem h)
section
variable {X : Cx} {i : Nat} {a : Addr} {xc : Xc} {cls : Value} {d : Option Addr} {oe : Obj} {pn : List (Addr × Obj)} {n : Str} {tb : List (Str × Bool)}
end
structure Cl where
  tb : List (Str × Bool)
  cv : Value
  i : Option Nat
  s : Xc → MS
section
variable {G : Gd} {k : Nat} {E : XK} {N : List Str} {sc : Scope} {X : Cx} {body : List Stmt} {h₀ : ExceptHandler} {hds : List ExceptHandler} {l : List Cl} {mb : MS} {pos : Pos}
end
end Ly
namespace Ly
open PySem PySem.Spec PyProof.Rows L2
section
variable {G : Gd} {k j n : Nat} {E : XK} {N ps : List Str} {sc : Scope} {X : Cx} {o e : Expr} {es : List Expr} {mo ma : ME} {mr : MA} {C x : Str} {fl : List Str} {gD : List D → List D → List D} {f : MF} {W : WX} {pos r1 r2 r3 : Pos} {st : Stmt} {m m' : MS}
end
end Ly
namespace Ly
open PySem PySem.W PySem.Calls PySem.Builtin PySem.Spec PyProof.Rows L2 He HandSHeadRun
end Ly
namespace Ly
open PySem PySem.Spec PyProof.Rows L2
section
variable {G : Gd} {k : Nat} {N ps ks : List Str} {sc : Scope} {x y qual : Str} {params : Arguments} {body : List Stmt} {kws : List (Str × V)} {fd : FuncData} {m : MS}
end
end Ly
namespace Ly
open PySem PySem.Spec PyProof.Rows L2
section
variable {y : Str} {G : Gd} {k j n : Nat} {E : XK} {N ps : List Str} {sc : Scope} {X : Cx} {o e : Expr} {es : List Expr} {mo ma : ME} {mr : MA} {C x : Str} {f : MF} {W : WX} {pos p r1 r2 r3 : Pos} {m m' : ME}
end
end Ly
namespace PySem.W
open PySem PySem.Calls PyProof.Rows Builtin
open MeetsSeq
section
variable {prog : Program} {w : World} {A : Around} {E : Value → Shared → Prop} {s : Shared} {K : Frag} {C x f : Addr} {ox : Obj} {od : Option Obj} {u : Value} {t : String}
variable {dx : Addr}
end
end PySem.W
namespace Ly
open PySem PySem.Spec PyProof.Rows L2
section
variable {X : Cx} {pins : List (Addr × Obj)} {σ : L2.St} {H : Hp} {s : Shared}
structure OthOk (K : PySem.W.Frag) (C : Str) : Prop where
  s1 : ∀ t ∈ tyNs, PySem.W.subIn K (.type t) (.ref (He.ga K C)) = some false
  s2 : ∀ t ∈ tyNs, PySem.W.mroIn K (He.ga K C) (.type t) = some false
end
end Ly
namespace PySem
open PySem.Calls PyProof.Rows Builtin
open MeetsSeq MeetsSeq2 MeetsSeq3 SeqRoads2
section
variable {prog : Program} {w : World}
end
end PySem
namespace Ly
open PySem PySem.Spec PyProof.Rows L2
noncomputable section
variable (C : Str) (gD : List D → List D → List D) (F : MF) (M : Mem)
end
section
variable {X : Cx} {pins : List (Addr × Obj)} {σ : L2.St} {C : Str} {j : Nat} {ps : List Str} {gD : List D → List D → List D} {F : MF} {E : XK}
variable (T : Mtd (gdOf X) j C "__eq__" ps 2 [] gD F) (To : OthOk X.K C) (pass : Passes (L2.CX X.prog X.w) X E)
include T To pass
end
section
variable {X : Cx} {pins : List (Addr × Obj)} {σ : L2.St} {C : Str} {j : Nat} {ps : List Str} {gD : List D → List D → List D} {F : MF} {E : XK}
variable (T : Mtd (gdOf X) j C "__eq__" ps 2 [] gD F) (To : OthOk X.K C) (pass : Passes (L2.CX X.prog X.w) X E)
include T To pass
end
end Ly
namespace Ly
open PySem PySem.Spec PyProof.Rows L2
noncomputable section
end
section
variable {X : Cx} {C : Str} {j : Nat} {ps : List Str} {gD : List D → List D → List D} {F : MF} {E : XK} (T : Mtd (gdOf X) j C "__eq__" ps 2 [] gD F) (To : OthOk X.K C) (pass : Passes (L2.CX X.prog X.w) X E)
include T To pass
end
section
variable {G : Gd} {k j n : Nat} {E : XK} {N ps : List Str} {sc : Scope} {X : Cx} {a b : Expr} {ma mb : ME} {pos : Pos} {C : Str} {gD : List D → List D → List D} {f : MF}
end
end Ly
namespace Ly
open PySem PySem.Spec PyProof.Rows L2
section
variable {G : Gd} {j k : Nat} {E : XK} {N : List Str} {sc : Scope} {X : Cx} {e : Expr} {es : List Expr} {mr : MA} {m : ME} {pos p : Pos} {C : Str} {ps : List Str} {gD : List D → List D → List D} {f : MF}
end
end Ly
namespace Ly
open PySem PySem.Spec PyProof.Rows L2
mutual
def D.dp : D → Nat
  | .tup ds => dpL ds + 1
  | .lst ds => dpL ds + 1
  | .dic kvs => dpK kvs + 1
  | _ => 0
def dpL : List D → Nat
  | [] => 0
  | d :: ds => max d.dp (dpL ds)
def dpK : List (Key × D) → Nat
  | [] => 0
  | (_, d) :: ds => max d.dp (dpK ds)
end
mutual
/-- what repr goes through -/
def D.sw : D → Bool
  | .non => true
  | .bl _ => true
  | .int _ => true
  | .str _ => true
  | .obj _ _ => true
  | .tup ds => swL ds
  | .lst ds => swL ds
  | .dic kvs => swK kvs
  | _ => false
def swL : List D → Bool
  | [] => true
  | d :: ds => d.sw && swL ds
def swK : List (Key × D) → Bool
  | [] => true
  | (_, d) :: ds => d.sw && swK ds
end
section
variable {X : Cx} {pins : List (Addr × Obj)} {σ : L2.St} {H : Hp} {s : Shared} {L : Wd}
theorem sqT_no (I : Inv X pins σ H s) {a : Addr} {vs : List V} (q : SqT X.K H a vs) : (∀ ws, H a ≠ some (.lst ws)) ∧ (∀ ws, H a ≠ some (.dK ws)) ∧ ∀ c dx gs, H a ≠ some (.ins c dx gs) := by
  rcases q with (q | ⟨o, q⟩) | ⟨o, _, _, q, _⟩
  · refine ⟨fun _ e => ?_, fun _ e => ?_, fun _ _ _ e => ?_⟩ <;> rw [q] at e <;> cases e
  · refine ⟨fun _ e => ?_, fun _ e => ?_, fun _ _ _ e => ?_⟩ <;> rw [q] at e <;> cases e
  · refine ⟨fun _ e => ?_, fun _ e => ?_, fun _ _ _ e => ?_⟩ <;> rw [lk_none I q] at e <;> cases e
mutual
theorem is_dp (I : Inv X pins σ H s) : ∀ {d d' : D} {v : V}, Is X.K L H d v → Is X.K L H d' v → d.sw = true → d'.sw = true → d.dp = d'.dp
  | .tup ds, d', v, h, h', g, g' => by
    obtain ⟨a, vs, rfl, q, r⟩ := isTup_sq I h
    obtain ⟨n1, n2, n3⟩ := sqT_no I q
    cases d' with
    | tup es =>
      obtain ⟨a', vs', e, q', r'⟩ := isTup_sq I h'
      cases e
      have e2 := I.tuple_inj q q'
      subst e2
      show dpL ds + 1 = dpL es + 1
      rw [is_dpL I r r' g g']
    | lst es => cases h' with | lst e1 e2 e3 => exact absurd e1 (n1 _)
    | dic es => cases h' with | dic e1 e2 e3 => exact absurd e1 (n2 _)
    | obj c fs => cases h' with | obj e1 e2 e3 => exact absurd e1 (n3 _ _ _)
    | non => cases h'
    | bl _ => cases h'
    | int _ => cases h'
    | str _ => cases h'
    | _ => cases g'
  | .lst ds, d', v, h, h', g, g' => by
    cases h with
    | lst h1 h2 h3 =>
    cases d' with
    | tup es =>
      obtain ⟨a', vs', e, q', r'⟩ := isTup_sq I h'
      cases e
      exact absurd h1 ((sqT_no I q').1 _)
    | lst es =>
      cases h' with
      | lst e1 e2 e3 =>
        rw [h1] at e1
        cases e1
        show dpL ds + 1 = dpL es + 1
        rw [is_dpL I h3 e3 g g']
    | dic es => cases h' with | dic e1 e2 e3 => rw [h1] at e1; cases e1
    | obj c fs => cases h' with | obj e1 e2 e3 => rw [h1] at e1; cases e1
    | non => cases h'
    | bl _ => cases h'
    | int _ => cases h'
    | str _ => cases h'
    | _ => cases g'
  | .dic ds, d', v, h, h', g, g' => by
    cases h with
    | dic h1 h2 h3 =>
    cases d' with
    | tup es =>
      obtain ⟨a', vs', e, q', r'⟩ := isTup_sq I h'
      cases e
      exact absurd h1 ((sqT_no I q').2.1 _)
    | lst es => cases h' with | lst e1 e2 e3 => rw [h1] at e1; cases e1
    | dic es =>
      cases h' with
      | dic e1 e2 e3 =>
        rw [h1] at e1
        cases e1
        show dpK ds + 1 = dpK es + 1
        rw [is_dpK I h3 e3 g g']
    | obj c fs => cases h' with | obj e1 e2 e3 => rw [h1] at e1; cases e1
    | non => cases h'
    | bl _ => cases h'
    | int _ => cases h'
    | str _ => cases h'
    | _ => cases g'
  | .obj c fs, d', v, h, h', g, g' => by
    cases h with
    | obj h1 h2 h3 =>
    cases d' with
    | tup es =>
      obtain ⟨a', vs', e, q', r'⟩ := isTup_sq I h'
      cases e
      exact absurd h1 ((sqT_no I q').2.2 _ _ _)
    | lst es => cases h' with | lst e1 e2 e3 => rw [h1] at e1; cases e1
    | dic es => cases h' with | dic e1 e2 e3 => rw [h1] at e1; cases e1
    | obj _ _ => rfl
    | non => cases h'
    | bl _ => cases h'
    | int _ => cases h'
    | str _ => cases h'
    | _ => cases g'
  | .non, d', v, h, h', g, g' => by cases h; cases h'; rfl
  | .bl _, d', v, h, h', g, g' => by cases h; cases h'; rfl
  | .int _, d', v, h, h', g, g' => by cases h; cases h'; rfl
  | .str _, d', v, h, h', g, g' => by cases h; cases h'; rfl
  | .ty _, _, v, h, h', g, g' => by cases g
  | .adr _, _, v, h, h', g, g' => by cases g
  | .scr _, _, v, h, h', g, g' => by cases g
  | .ftu _, _, v, h, h', g, g' => by cases g
  | .ref _, _, v, h, h', g, g' => by cases g
theorem is_dpL (I : Inv X pins σ H s) : ∀ {ds ds' : List D} {vs : List V}, IsL X.K L H ds vs → IsL X.K L H ds' vs → swL ds = true → swL ds' = true → dpL ds = dpL ds'
  | [], [], _, _, _, _, _ => rfl
  | [], _ :: _, _, h, h', _, _ => by cases h; cases h'
  | _ :: _, [], _, h, h', _, _ => by cases h; cases h'
  | d :: ds, e :: es, _, h, h', g, g' => by
    cases h with
    | cons r rs =>
      cases h' with
      | cons r' rs' =>
        have g1 : (d.sw && swL ds) = true := g
        have g2 : (e.sw && swL es) = true := g'
        show max d.dp (dpL ds) = max e.dp (dpL es)
        rw [is_dp I r r' (and_l g1) (and_l g2), is_dpL I rs rs' (and_r g1) (and_r g2)]
theorem is_dpK (I : Inv X pins σ H s) : ∀ {ds ds' : List (Key × D)} {vs : List (Key × V)}, IsKV X.K L H ds vs → IsKV X.K L H ds' vs → swK ds = true → swK ds' = true → dpK ds = dpK ds'
  | [], [], _, _, _, _, _ => rfl
  | [], _ :: _, _, h, h', _, _ => by cases h; cases h'
  | _ :: _, [], _, h, h', _, _ => by cases h; cases h'
  | (k, d) :: ds, (k', e) :: es, _, h, h', g, g' => by
    cases h with
    | cons r rs =>
      cases h' with
      | cons r' rs' =>
        have g1 : (d.sw && swK ds) = true := g
        have g2 : (e.sw && swK es) = true := g'
        show max d.dp (dpK ds) = max e.dp (dpK es)
        rw [is_dp I r r' (and_l g1) (and_l g2), is_dpK I rs rs' (and_r g1) (and_r g2)]
end
def Gr2 (K : PySem.W.Frag) (L : Wd) (H : Hp) (g : List Code) (n : Nat) : Prop := ∀ id v rest kw, Code.builtin id ⟨v :: rest, kw⟩ ∈ g → ∃ a, v = Value.ref a ∧ ((∃ d, Is K L H d (V.ref a) ∧ d.sw = true ∧ n < d.dp) ∨ ∃ φ, H a = some (.ext φ) ∧ Out L a)
theorem Gr2.step {K : PySem.W.Frag} {H' : Hp} {L' : Wd} {g : List Code} {n : Nat} (h : Gr2 K L H g n) (s : Step L H L' H') : Gr2 K L' H' g n := fun id v rest kw hm => by
  obtain ⟨a, e, h⟩ := h id v rest kw hm
  rcases h with ⟨d, r, q, z⟩ | ⟨φ, q, o⟩
  · exact ⟨a, e, .inl ⟨d, r.step s, q, z⟩⟩
  · exact ⟨a, e, .inr ⟨φ, s.keep a _ q o⟩⟩
theorem Gr2.mono {K : PySem.W.Frag} {g : List Code} {n m : Nat} (h : Gr2 K L H g n) (hm : m ≤ n) : Gr2 K L H g m := fun id v rest kw hx => by
  obtain ⟨a, e, h⟩ := h id v rest kw hx
  rcases h with ⟨d, r, q, z⟩ | h
  · exact ⟨a, e, .inl ⟨d, r, q, by omega⟩⟩
  · exact ⟨a, e, .inr h⟩
theorem ext_no (I : Inv X pins σ H s) {a : Addr} {φ : Heap → Prop} (e : H a = some (.ext φ)) {d : D} (r : Is X.K L H d (V.ref a)) (g : d.sw = true) : False := by
  cases d with
  | tup es =>
    obtain ⟨a', vs, e', q, _⟩ := isTup_sq I r
    cases e'
    rcases q with (q | ⟨o, q⟩) | ⟨o, _, _, q, _⟩
    · rw [q] at e; cases e
    · rw [q] at e; cases e
    · rw [lk_none I q] at e; cases e
  | lst es => cases r with | lst e1 _ _ => rw [e1] at e; cases e
  | dic es => cases r with | dic e1 _ _ => rw [e1] at e; cases e
  | obj c fs => cases r with | obj e1 _ _ => rw [e1] at e; cases e
  | non => cases r
  | bl _ => cases r
  | int _ => cases r
  | str _ => cases r
  | _ => cases g
theorem Gr2.clear (I : Inv X pins σ H s) {g : List Code} {n : Nat} (h : Gr2 X.K L H g n) {b : Addr} {d : D} (r : Is X.K L H d (V.ref b)) (q : d.sw = true) (hn : d.dp ≤ n) : Clear g b := fun id v rest kw hm e => by
  obtain ⟨a, e', h⟩ := h id v rest kw hm
  rw [e] at e'
  cases e'
  rcases h with ⟨d', r', q', z⟩ | ⟨φ, h, _⟩
  · have := is_dp I r r' q q'
    omega
  · exact ext_no I h r q
theorem Gr2.push {K : PySem.W.Frag} {g : List Code} {n : Nat} (h : Gr2 K L H g (n + 1)) {a : Addr} {d : D} (r : Is K L H d (V.ref a)) (q : d.sw = true) (hd : n < d.dp) (id : String) (rest : List Value) : Gr2 K L H (.builtin id ⟨.ref a :: rest, []⟩ :: g) n := fun id' v rest' kw hm => by
  rcases List.mem_cons.mp hm with e | hm
  · cases e
    exact ⟨a, rfl, .inl ⟨d, r, q, hd⟩⟩
  · exact h.mono (Nat.le_succ n) id' v rest' kw hm
end
end Ly
namespace Ly
open PySem PySem.Spec PyProof.Rows L2
open PySem.Builtin PySem.Builtin.List
section
variable {C : Str} {gD : List D → List D → List D} {F : MF} {M : Mem}
end
section
variable {X : Cx} {σ : L2.St} {C : Str} {j : Nat} {ps : List Str} {gD : List D → List D → List D} {F : MF} {E : XK}
variable (T : ∀ gs, Mtd { gdOf X with gs := gs } j C "__repr__" ps 1 [] gD F) (pass : Passes (L2.CX X.prog X.w) X E)
include T pass
end
end Ly
namespace PySem
open PySem.Calls PyProof.Rows Builtin
section
variable {prog : Program} {w : World}
end
end PySem
namespace Ly
open PySem PySem.Spec PyProof.Rows L2
open PySem.Builtin PySem.Builtin.List
mutual
/-- what may be moved aside: nothing of it is a dict with things in it, or a cell -/
def D.mv (C : Str) : D → Bool
  | .non => true
  | .bl _ => true
  | .int _ => true
  | .str _ => true
  | .obj c fs => decide (c = C) && flatF C fs
  | .tup ds => mvL C ds
  | .lst ds => mvL C ds
  | .dic [] => true
  | _ => false
def mvL (C : Str) : List D → Bool
  | [] => true
  | d :: ds => d.mv C && mvL C ds
end
def L0 (z : List Addr) : Wd := ⟨[], z⟩
section
variable {K : PySem.W.Frag} {L : Wd} {H : Hp} {C : Str} {a : Addr} {kws : List (Key × V)} {o : HO}
end
end Ly
namespace Ly
open PySem PySem.Spec PyProof.Rows L2
open PySem.Builtin PySem.Builtin.List
section
variable {X : Cx} {C : Str} {j : Nat} {ps : List Str} {gD : List D → List D → List D} {F : MF} {E : XK}
end
section
variable {G : Gd} {j k : Nat} {E : XK} {N : List Str} {sc : Scope} {X : Cx} {e : Expr} {es : List Expr} {mr : MA} {pos p : Pos} {C : Str} {ps : List Str} {gD : List D → List D → List D} {F : MF}
end
end Ly
namespace Ly
open PySem PySem.Spec PyProof.Rows L2
section
variable {K : PySem.W.Frag} {L : Wd} {H : Hp} {M : Mem}
end
section
variable {X : Cx} {pins : List (Addr × Obj)} {σ : L2.St} {H : Hp} {s : Shared} {L : Wd} {M : Mem}
end
section
variable {G : Gd} {k : Nat} {E : XK} {N : List Str} {sc : Scope} {X : Cx}
end
end Ly
namespace Ly
open PySem PySem.Spec PyProof.Rows L2
def tabNo (K : PySem.W.Frag) : Bool := lamDefs.all fun x => (tabK K x).isNone
theorem tabNo_ok {K : PySem.W.Frag} (h : tabNo K = true) : ∀ z ∈ lamDefs, tabK K z = none := fun z hz => by
  have := List.all_eq_true.mp h z hz
  cases e : tabK K z with
  | none => rfl
  | some P => rw [e] at this; cases this
section
variable {P : Program} {w : World} {K : PySem.W.Frag} {mg mb : Str → Option Value} {k : Nat} {a p c : Addr} {x y : Str} {s : Shared} {vs : List Value} {ns : List Int} {f : MF}
end
end Ly
namespace L2
open PySem PySem.Spec PyProof.Rows
section
variable {X : Cx} {body suite : List Stmt} {b₀ : Stmt} {pos pos' p1 p2 tp : Pos} {kk : Nat} {x1 x2 : Str} {c1 c2 : Value} {tb : WX → TS} {ts : Addr → Value → Option Addr → TS} {Wout : WX}
end
end L2
namespace Ly
open PySem PySem.Spec PyProof.Rows L2
section
variable {G : Gd} {k j : Nat} {E : XK} {N ps : List Str} {sc : Scope} {X : Cx} {body suite rest : List Stmt} {b₀ : Stmt} {mb ms m' : MS} {ma : ME} {mr : MA} {pos pos' p p1 p2 tp : Pos} {kk : Nat} {x x1 x2 : Str} {c1 c2 : Value} {tb : List (Str × Bool)} {W : WX} {e : Expr} {es : List Expr} {f : MF}
end
section
variable {G : Gd} {k j : Nat} {N ps : List Str} {sc : Scope} {x : Str} {params : Arguments} {body : List Stmt} {kws : List (Str × V)} {m : MS}
end
end Ly
namespace Ly
open PySem PySem.Spec PyProof.Rows L2
section
variable {G : Gd} {k j1 j2 n : Nat} {E : XK} {N ps1 ps2 : List Str} {sc : Scope} {X : Cx} {a e : Expr} {es : List Expr} {mi : ME} {mr : MA} {f1 f2 : MF} {x1 x2 : Str} {pos p1 p2 lp sp : Pos}
end
end Ly
namespace Ly
open PySem PySem.Spec PyProof.Rows L2
section
variable {G : Gd} {k : Nat} {E : XK} {N : List Str} {sc : Scope} {X : Cx} {e : Expr} {es : List Expr} {mr : MA} {pos p : Pos}
end
end Ly
namespace Ly
open PySem PySem.Spec PyProof.Rows L2
section
variable {G : Gd} {k : Nat} {E : XK} {N : List Str} {sc : Scope} {X : Cx}
end
section
variable {Q : D → Mem → Prop} {M : Mem} {a b : Str}
end
end Ly
namespace Ly
open PySem PySem.Spec PyProof.Rows L2
section
variable {G : Gd} {k j n : Nat} {E : XK} {N ps : List Str} {sc : Scope} {X : Cx} {e : Expr} {ma : ME} {x : Str} {W : WX} {pos r1 : Pos} {rest : List Stmt} {m' : MS}
end
end Ly
namespace L2
open PySem PySem.Spec PyProof.Rows
def ipAddS : TIp := fun x y H Q => ipI (fun i j => i + j) x y H Q ∨ ∃ i j, x = .str i ∧ y = .str j ∧ i.length + j.length ≤ sizeLine ∧ Q (.str (i ++ j)) H
theorem ip_addS {X : Cx} : PIp X .Add ipAddS := fun pins s σ H x y v u Q I r1 r2 h => h.elim (fun h => ip_add pins s σ H x y v u Q I r1 r2 h) fun h => iop_add_str pins s σ H x y v u Q I r1 r2 h
end L2
namespace Ly
open PySem PySem.Spec PyProof.Rows L2
def opAug (d e : D) (M : Mem) : Res D := match d, e with
  | .int i, .int j => .ok (.int (i + j)) M
  | .str x, .str y => if szOk (x.length + y.length) then .ok (.str (x ++ y)) M else .bad
  | _, _ => .bad
theorem rs_aug {K : PySem.W.Frag} : RS2 K ipAddS opAug := by
  intro E L H M d e x y Q m rd re h
  unfold opAug at h
  split at h
  · cases rd; cases re
    exact .inl ⟨_, _, rfl, rfl, h.end_ m (.int _)⟩
  · split at h
    · rename_i hz
      cases rd; cases re
      exact .inr ⟨_, _, rfl, rfl, szOk.le hz, h.end_ m (.str _)⟩
    · exact h.elim
  · exact h.elim
abbrev mAugN (i : Nat) (op : D → D → Mem → Res D) (ma : ME) : MS := mAsg (mBin op (mVar i) ma) (gN i)
section
variable {G : Gd} {k : Nat} {E : XK} {N : List Str} {sc : Scope} {X : Cx} {e : Expr} {ma : ME} {pos : Pos}
theorem aug_sim {o : Operator} {r : TIp} {op : D → D → Mem → Res D} {i : Nat} {x : Str} {pos' : Pos} (hp : PIp X o r) (hr : RS2 G.K r op) (c : Cq G k E N sc X) (hi : N[i]? = some x) (hx : Loc sc x) (hf : X.fn x = true ∨ sc.names.lookup x = some NameKind.local) (ha : PE X e (tD G.K E ma)) :
    PS X (.AugAssign (.Name x pos') o e pos) (sD G.K E (mAugN i op ma)) := by
  refine (ps_aug (i := i) (by rw [c.n]; exact c.nd) (by rw [c.n]; exact hi) (by rw [c.scq]; exact hx) ha hp (by rw [c.scq]; exact hf)).imp fun T σ H ⟨env, L, M, he, hm, h⟩ => ?_
  have h' : FinS G.K E L H ((((mVar i env M).bind fun d M1 => (ma env M1).bind fun e M2 => op d e M2)).bindS fun d M1 => .nx (env.set i (some d)) M1) T := h
  unfold mVar at h'
  split at h'
  · rename_i d e0
    obtain ⟨v, s0, rd⟩ := he.at_ i d e0
    refine ⟨v, s0, env, L, M, he, hm, ?_⟩
    replace h' : FinS G.K E L H (((ma env M).bind fun e M2 => op d e M2).bindS fun d M1 => .nx (env.set i (some d)) M1) T := h'
    cases q : ma env M with
    | ok e1 M1 =>
      rw [q] at h'
      replace h' : FinS G.K E L H ((op d e1 M1).bindS fun d M1 => .nx (env.set i (some d)) M1) T := h'
      refine fun L1 H1 w s1 m1 r1 => hr E L1 H1 M1 d e1 v w _ m1 (rd.step s1) r1 (Fin.imp (Fin.bindS (h'.step s1)) fun z H2 ⟨d2, M2, L2, s2, m2, r2, h2⟩ => ?_)
      exact h2 L2 H2 _ Step.refl m2 (((he.step s1).step s2).set i r2)
    | exc xc M1 =>
      rw [q] at h'
      exact h'
    | bad =>
      rw [q] at h'
      exact h'.elim
  · exact h'.elim
theorem cs_augAdd {i : Nat} {x : Str} {pos' : Pos} (c : Cq G k E N sc X) (hi : N[i]? = some x) (hx : Loc sc x) (hv : Vis sc x) (hf : X.fn x = true ∨ sc.names.lookup x = some NameKind.local) (ha : PE X e (tD G.K E ma)) : PS X (.AugAssign (.Name x pos') .Add e pos) (sD G.K E (mAugN i opAug ma)) := aug_sim ip_addS rs_aug c hi hx hf ha
end
section
variable {Q : D → Mem → Prop} {M : Mem} {i j : Int} {x y : Str}
theorem go_augI : Go (opAug (.int i) (.int j) M) Q = Q (.int (i + j)) M := id rfl
end
end Ly
namespace Ly
open PySem PySem.Spec PyProof.Rows L2
section
variable {G : Gd} {k : Nat} {E : XK} {N : List Str} {sc : Scope} {X : Cx} {a b : Expr} {rest : List Expr} {ma mb : ME} {pos : Pos}
end
end Ly
namespace Ly
open PySem PySem.Spec PyProof.Rows L2
section
variable {G : Gd} {k : Nat} {E : XK} {N : List Str} {sc : Scope} {X : Cx} {a b : Expr} {ma mb : ME} {pos : Pos}
end
section
variable {Q : D → Mem → Prop} {M : Mem} {i j : Int} {x : Str}
end
end Ly
namespace L2
open PySem PySem.Spec PyProof.Rows
section
variable {X : Cx}
end
end L2
namespace Ly
open PySem PySem.Spec PyProof.Rows L2
section
variable {G : Gd} {k : Nat} {E : XK} {N : List Str} {sc : Scope} {X : Cx} {a : Expr} {ma : ME} {pos : Pos}
end
end Ly
namespace Ly
open PySem PySem.Spec PyProof.Rows L2
def intP (xs : List Int) : PyData := .tuple (xs.map .int)
def ltInts (xs ys : List Int) : Bool := PySem.W.dataLt (intP xs) (intP ys)
theorem alike_ints : ∀ xs ys : List Int, PySem.W.alikeAll (xs.map .int) (ys.map .int) = true
  | [], _ => by
    show PySem.W.alikeAll [] _ = true
    unfold PySem.W.alikeAll
    rfl
  | _ :: _, [] => by
    show PySem.W.alikeAll (_ :: _) [] = true
    unfold PySem.W.alikeAll
    rfl
  | x :: xs, y :: ys => by
    show PySem.W.alikeAll (.int x :: xs.map .int) (.int y :: ys.map .int) = true
    unfold PySem.W.alikeAll
    rw [alike_ints xs ys]
    unfold PySem.W.alike
    rfl
theorem depth_intsP : ∀ xs : List Int, PyData.depthAll (xs.map .int) = 0
  | [] => rfl
  | x :: xs => by
    show max 0 (PyData.depthAll (xs.map .int)) = 0
    rw [depth_intsP xs]
    rfl
theorem pdAll_intsP : ∀ {ds : List D} {xs : List Int}, intsOf ds = some xs → pdAll ds = some (xs.map .int)
  | [], _, h => by
    cases h
    rfl
  | d :: ds, _, h => by
    cases d <;> first | (cases (show (none : Option (List Int)) = some _ from h)) | skip
    obtain ⟨ys, e, rfl⟩ := Option.map_eq_some_iff.mp h
    unfold pdAll
    rw [pdAll_intsP e]
    rfl
section
variable {G : Gd} {k : Nat} {E : XK} {N : List Str} {sc : Scope} {X : Cx} {a b : Expr} {pos : Pos} {ma mb : ME}
end
end Ly
namespace Ly
open PySem PySem.W PySem.Calls PySem.Builtin PySem.Spec PyProof.Rows L2 He HandSHeadRun
def obsZ (as : List Addr) (fa : List Fa) (fn : List DefD) (ts : List Tab) (ex : PySem.W.Frag → Bool) (g : Addr → Option Obj) : AlX := (obsT fa fn ts (frT g as), ex (frT g as))
theorem saysZ_of {as : List Addr} {fa : List Fa} {fn : List DefD} {ts : List Tab} {ex : PySem.W.Frag → Bool} {w : World} {h : Heap} (e : obsZ as fa fn ts ex h.get? = valX fn ts w) : SaysX fa fn ts [] ex w h (frT h.get? as) :=
  ⟨congrArg (fun z : AlX => z.1) e, congrArg (fun z : AlX => z.2) e, fun p hp => (nomatch hp), fun p hp => (nomatch hp), fun p hp => (nomatch hp)⟩
def hookZ (as : List Addr) (fa : List Fa) (fn : List DefD) (ts : List Tab) (ex : PySem.W.Frag → Bool) : PySem.W.Hook where
  α := AlX
  obs := fun s => obsZ as fa fn ts ex s.heap.get?
  val := fun w => valX fn ts w
  says := fun w h => ∃ K : PySem.W.Frag, K.In h ∧ SaysX fa fn ts [] ex w h K
  of := fun _ _ e => ⟨_, frT_in, saysZ_of e⟩
  keeps := fun _ _ _ ⟨K, hK, c⟩ k => ⟨K, PySem.W.Frag.In.keeps hK k, ⟨c.t, c.more, c.hd, c.out, fun p hp => k _ _ (c.empty p hp)⟩⟩
theorem obsZ_eq {as : List Addr} {fa : List Fa} {fn : List DefD} {ts : List Tab} {ex : PySem.W.Frag → Bool} {g : Addr → Option Obj} {s : Shared} (h : ∀ a, g a = s.heap.get? a) : obsZ as fa fn ts ex g = (hookZ as fa fn ts ex).obs s := by
  have e : g = s.heap.get? := funext h
  rw [e] <;> rfl
theorem run_partsZ {r : PySem.W.OpenRow} {q : Program} {as : List Addr} {M : Nat} {fa : List Fa} {fn : List DefD} {ts : List Tab} {ex : PySem.W.Frag → Bool} {loose : List PySem.Str} {w : World}
    (h0 : ∀ os : OsState, (endF (stepQ (denQ tabQ) r.prog w) M r.prog w os).map (fun s => (looksF r.prog (boot_heap w.params) s.abs, HandSHeadRun.seenQ q loose (importedModules r.prog.main.body) (fun s => PySem.W.xlAt q [] s && PySem.W.recOk r.toRowW.records s) s.abs)) = some (true, PySem.W.openGood q loose))
    (h1 : ∀ os : OsState, (endF (stepQ (denQ tabQ) r.prog w) M r.prog w os).map (fun s => obsZ as fa fn ts ex (getT s)) = some (valX fn ts w)) :
    RunEq r q (hookZ as fa fn ts ex) (fun s => obsZ as fa fn ts ex (getT s)) M loose w := by
  intro os
  have z0 := h0 os
  have z1 := h1 os
  cases e : endF (stepQ (denQ tabQ) r.prog w) M r.prog w os with
  | none => rw [e] at z0; cases z0
  | some s =>
    rw [e] at z0 z1
    have y0 := Option.some.inj z0
    have y1 := Option.some.inj z1
    have c0 := congrArg Prod.fst y0
    have c1 := congrArg Prod.snd y0
    exact congrArg some (Prod.ext c0 (Prod.ext c1 y1))
end Ly
namespace Ly
open PySem PySem.Spec PyProof.Rows L2
def NoTup (K : PySem.W.Frag) : Prop := ∀ a vs, ¬ KTup K a vs
def noTupB (K : PySem.W.Frag) : Bool := K.all fun p => !(p.2.cls == .type "tuple")
theorem noTupB_ok {K : PySem.W.Frag} (h : noTupB K = true) : NoTup K := fun a vs ⟨o, its, n, h1, h2, _⟩ => by
  have := List.all_eq_true.mp h (a, o) (He.lookup_mem h1)
  rw [h2] at this
  have e : ((Value.type "tuple") == .type "tuple") = true := by decide +kernel
  rw [e] at this
  cases this
def keysT : List D → Option (List Key)
  | [] => some []
  | d :: ds => (keyOf d).bind fun k => (keysT ds).map fun ks => k :: ks
def keyT : D → Option (List Key)
  | .tup ds => keysT ds
  | _ => none
def dctOf (d : D) (M : Mem) : Option (List (List Key) × List D) := match d with
  | .ref n => (match M[n]? with
    | some (.dct ks ds) => some (ks, ds)
    | _ => none)
  | _ => none
def atZ {α : Type} (ks : List (List Key)) (xs : List α) (q : List Key) : Option α := ((ks.zip xs).find? fun p => decide (p.1 = q)).map (·.2)
def hasZ (ks : List (List Key)) (q : List Key) : Bool := ks.any fun k => decide (k = q)
def keysZ (ks : List (List Key)) (q : List Key) : List (List Key) := if hasZ ks q then ks else ks ++ [q]
def putZ {α : Type} (ks : List (List Key)) (xs : List α) (q : List Key) (x : α) : List α := if hasZ ks q then (ks.zip xs).map (fun p => if p.1 = q then x else p.2) else xs ++ [x]
theorem putK_zip {ks : List (List Key)} {vs : List V} {q : List Key} {x : V} (hl : ks.length = vs.length) : putK (ks.zip vs) q x = (keysZ ks q).zip (putZ ks vs q x) := by
  have any : ((ks.zip vs).any fun kv => decide (kv.1 = q)) = hasZ ks q := by
    have e : (ks.zip vs).map (·.1) = ks := List.map_fst_zip (by omega)
    unfold hasZ
    conv =>
      rhs
      rw [← e]
    rw [List.any_map]
    rfl
  unfold putK keysZ putZ
  rw [any]
  cases h : hasZ ks q with
  | true =>
    rw [if_pos rfl, if_pos rfl, if_pos rfl]
    have : ∀ (ks : List (List Key)) (vs : List V), ks.length = vs.length → (ks.zip vs).map (fun kv => if kv.1 = q then (kv.1, x) else kv) = ks.zip ((ks.zip vs).map fun p => if p.1 = q then x else p.2) := by
      intro ks
      induction ks with
      | nil => intro vs _; rfl
      | cons k ks ih =>
        intro vs hl
        cases vs with
        | nil => cases hl
        | cons v vs =>
          have := ih vs (Nat.succ.inj hl)
          simp only [List.zip_cons_cons, List.map_cons, this]
          congr 1
          by_cases hk : k = q
          · rw [if_pos hk, if_pos hk]
          · rw [if_neg hk, if_neg hk]
    exact this ks vs hl
  | false =>
    rw [if_neg (by decide), if_neg (by decide), if_neg (by decide), List.zip_append hl]
    rfl
section
variable {K : PySem.W.Frag} {L : Wd} {H : Hp} {M : Mem}
theorem keysT_ok : ∀ {ds : List D} {vs : List V} {ks : List Key}, IsL K L H ds vs → keysT ds = some ks → vs = ks.map kV
  | _, _, _, .nil, h => by cases h; rfl
  | _, _, _, .cons a b, h => by
    obtain ⟨k, e1, h⟩ := Option.bind_eq_some_iff.mp h
    obtain ⟨ks, e2, rfl⟩ := Option.map_eq_some_iff.mp h
    rw [key_ok a e1, keysT_ok b e2]
    rfl
theorem keyT_ok (nt : NoTup K) {d : D} {v : V} {k : List Key} (r : Is K L H d v) (h : keyT d = some k) : ∃ b, v = .ref b ∧ H b = some (.tup (k.map kV)) := by
  cases r with
  | tup q n rl =>
    obtain rfl := keysT_ok rl h
    exact ⟨_, rfl, q⟩
  | tupK q rl => exact absurd q (nt _ _)
  | _ => cases h
theorem dctOf_ok (m : MemIs K L H M) {d : D} {v : V} {ks : List (List Key)} {ds : List D} (r : Is K L H d v) (h : dctOf d M = some (ks, ds)) : ∃ n a vs, d = .ref n ∧ v = .ref a ∧ L.l[n]? = some a ∧ M[n]? = some (.dct ks ds) ∧ H a = some (.dT (ks.zip vs)) ∧ ks.length = ds.length ∧ IsL K L H ds vs := by
  unfold dctOf at h
  split at h
  · rename_i n
    split at h
    · rename_i ks' ds' hx
      cases h
      obtain ⟨a, rfl, hn⟩ := ref_inv r
      obtain ⟨vs, q, hl, rr⟩ := m.cell _ a _ hn hx
      exact ⟨n, a, vs, rfl, rfl, hn, hx, q, hl, rr⟩
    · cases h
  · cases h
theorem atZ_ok {q : List Key} : ∀ {ks : List (List Key)} {ds : List D} {vs : List V}, IsL K L H ds vs → (∀ d, atZ ks ds q = some d → ∃ v, valV (ks.zip vs) q = some v ∧ Is K L H d v) ∧ (atZ ks ds q = none → valV (ks.zip vs) q = none)
  | [], _, _, _ => ⟨fun _ h => (nomatch h), fun _ => rfl⟩
  | k :: ks, _, _, .nil => ⟨fun _ h => (nomatch h), fun _ => rfl⟩
  | k :: ks, d :: ds, v :: vs, .cons a b => by
    obtain ⟨h1, h2⟩ := atZ_ok (q := q) (ks := ks) b
    unfold atZ at h1 h2 ⊢
    unfold valV at h1 h2 ⊢
    rw [List.zip_cons_cons, List.zip_cons_cons, List.find?_cons, List.find?_cons]
    by_cases hk : k = q
    · dsimp only
      rw [decide_eq_true hk]
      exact ⟨fun d' h => by cases h; exact ⟨v, rfl, a⟩, fun h => by cases h⟩
    · dsimp only
      rw [decide_eq_false hk]
      exact ⟨h1, h2⟩
theorem putZ_ok {q : List Key} {d : D} {x : V} (r : Is K L H d x) {ks : List (List Key)} {ds : List D} {vs : List V} (hl : ks.length = ds.length) (h : IsL K L H ds vs) : IsL K L H (putZ ks ds q d) (putZ ks vs q x) := by
  unfold putZ
  split
  · have key : ∀ {ds : List D} {vs : List V}, IsL K L H ds vs → ∀ ks : List (List Key), IsL K L H ((ks.zip ds).map fun p => if p.1 = q then d else p.2) ((ks.zip vs).map fun p => if p.1 = q then x else p.2) := by
      intro ds vs h
      induction ds generalizing vs with
      | nil =>
        cases h
        intro ks
        cases ks <;> exact .nil
      | cons d' ds ih =>
        cases h with
        | cons a b =>
          intro ks
          cases ks with
          | nil => exact .nil
          | cons k ks =>
            have := ih b ks
            rw [List.zip_cons_cons, List.zip_cons_cons, List.map_cons, List.map_cons]
            refine .cons ?_ this
            dsimp only
            split
            · exact r
            · exact a
    exact key h ks
  · exact h.append (.cons r .nil)
end
theorem keysZ_len {α : Type} {ks : List (List Key)} {xs : List α} {q : List Key} {x : α} (hl : ks.length = xs.length) : (keysZ ks q).length = (putZ ks xs q x).length := by
  unfold keysZ putZ
  split
  · rw [List.length_map, List.length_zip]
    omega
  · rw [List.length_append, List.length_append, hl]
    rfl
def opIxT (d e : D) (M : Mem) : Res D := match dctOf d M, keyT e with
  | some (ks, ds), some q => (match atZ ks ds q with
    | some v => .ok v M
    | none => .bad)
  | _, _ => .bad
theorem rs_ixT {K : PySem.W.Frag} (nt : NoTup K) : RS2 K (fun x y H Q => ∃ a v, x = .ref a ∧ DGet H a y (some v) ∧ Q v H) opIxT := by
  intro E L H M d e x y Q m rd re h
  unfold opIxT at h
  split at h
  · rename_i ks ds q h1 h2
    split at h
    · rename_i v hv
      obtain ⟨n, a, vs, rfl, rfl, hn, hx, qq, hl, rr⟩ := dctOf_ok m rd h1
      obtain ⟨b, rfl, hb⟩ := keyT_ok nt re h2
      obtain ⟨w, e1, r'⟩ := (atZ_ok (q := q) (ks := ks) rr).1 v hv
      exact ⟨a, w, rfl, by rw [← e1]; exact DGet.t qq hb, h.end_ m r'⟩
    · exact h.elim
  · exact h.elim
def opGetT (d y z : D) (M : Mem) : Res D := match dctOf d M, keyT y with
  | some (ks, ds), some q => .ok ((atZ ks ds q).getD z) M
  | _, _ => .bad
def mGetT (mo ma mb : ME) : ME := fun env M => (mo env M).bind fun d M1 => if (dctOf d M1).isSome then (ma env M1).bind fun y M2 => (mb env M2).bind fun z M3 => opGetT d y z M3 else .bad
def setMT (M : Mem) (d i v : D) : Option Mem := match d with
  | .ref n => (match M[n]? with
    | some (.dct ks ds) => (match keyT i with
      | some q => if szOk (ks.length + 1) then some (M.set n (.dct (keysZ ks q) (putZ ks ds q v))) else none
      | none => none)
    | _ => none)
  | _ => none
def mSetItemT (mv mo mi : ME) : MS := fun env M => (mv env M).bindS fun v M1 => (mo env M1).bindS fun d M2 => (mi env M2).bindS fun i M3 => match setMT M3 d i v with
  | some M4 => .nx env M4
  | none => .bad
section
variable {G : Gd} {k : Nat} {E : XK} {N : List Str} {sc : Scope} {X : Cx} {a b e o : Expr} {ma mb mo mv mi : ME} {pos apos cpos : Pos}
theorem ce_ixT (nt : NoTup G.K) (c : Cq G k E N sc X) (ha : PE X a (tD G.K E ma)) (hb : PE X b (tD G.K E mb)) (hs : PlainIx b := by intro _ _; rfl) : PE X (.Subscript a b pos) (tD G.K E (mBin opIxT ma mb)) := by
  obtain rfl := c.g
  exact (pe_ix (ix_dict (hu_of c.room)) ha hb hs).imp fun _ _ _ h => op_sim (rs_ixT nt) h
theorem ce_getT (nt : NoTup G.K) (c : Cq G k E N sc X) (ho : PE X o (tD G.K E mo)) (ha : PE X a (tD G.K E ma)) (hb : PE X b (tD G.K E mb)) (m2 : M2 X o "get" apos a b cpos) : PE X (.Call (.Attribute o "get" apos) [a, b] [] cpos) (tD G.K E (mGetT mo ma mb)) := by
  refine (pe_dget2 (hu_of c.room) ho ha hb m2).imp fun σ H Q ⟨env, L, M, he, hm, h⟩ => ?_
  refine ⟨env, L, M, he, hm, Fin.imp (Fin.bind h) fun x H1 ⟨d, M1, L1, s1, m1, r1, h1⟩ => ?_⟩
  split at h1
  · rename_i hy
    obtain ⟨⟨ks, ds⟩, hk⟩ := Option.isSome_iff_exists.mp hy
    obtain ⟨n, ad, vs, rfl, rfl, hn, hx, q, hl, r⟩ := dctOf_ok m1 r1 hk
    refine ⟨ad, rfl, .inr ⟨_, .inl q⟩, env, L1, M1, he.step s1, m1, Fin.imp (Fin.bind h1) fun y H2 ⟨yd, M2, L2, s2, m2, r2, h2⟩ => ?_⟩
    refine ⟨env, L2, M2, (he.step s1).step s2, m2, Fin.imp (Fin.bind h2) fun z H3 ⟨zd, M3, L3, s3, m3, r3, h3⟩ => ?_⟩
    unfold opGetT at h3
    split at h3
    · rename_i ks3 ds3 q3 hd3 hk3
      obtain ⟨n', ad', vs3, e3', e3, hn', hx', qq3, hl3, rr3⟩ := dctOf_ok m3 ((r1.step s2).step s3) hd3
      cases e3
      obtain ⟨bq, rfl, hb'⟩ := keyT_ok nt (r2.step s3) hk3
      refine ⟨valV (ks3.zip vs3) q3, DGet.t qq3 hb', ?_⟩
      obtain ⟨z1, z2⟩ := atZ_ok (q := q3) (ks := ks3) rr3
      cases hv : atZ ks3 ds3 q3 with
      | none =>
        rw [z2 hv]
        rw [hv] at h3
        exact h3.end_ m3 r3
      | some w =>
        obtain ⟨v', e1, r'⟩ := z1 w hv
        rw [e1]
        rw [hv] at h3
        exact h3.end_ m3 r'
    · exact h3.elim
  · exact h1.elim
theorem cs_setItemT (nt : NoTup G.K) {i : Expr} {pos' : Pos} (c : Cq G k E N sc X) (hv : PE X e (tD G.K E mv)) (ho : PE X o (tD G.K E mo)) (hi : PE X i (tD G.K E mi)) (hs : swapsWithSole [.Subscript o i pos'] e pos.line X.env = pure false := by rfl) (hw : swappedStores [.Subscript o i pos'] e X.env = pure none := by rfl)
    (h1 : (assignEach [.Subscript o i pos'] X.env).map (·.2) = [assign (.Subscript o i pos') X.env] := by rfl)
    (ha : ∀ v, assign (.Subscript o i pos') X.env v = (do
      let ov ← holding [v] (eval o X.env)
      let iv ← holding [v, ov] (eval i X.env)
      standAt pos'
      holding [v, ov, iv] (setItem ov iv v)
      release [v, ov, iv] []) := by intro _; rfl) : PS X (.Assign [.Subscript o i pos'] e pos) (sD G.K E (mSetItemT mv mo mi)) := by
  obtain rfl := c.g
  refine (ps_asg hv (pg_sub ho hi (set_dict (hu_of c.room)) ha) hs hw h1).imp fun T σ H ⟨env, L, M, he, hm, h⟩ => ?_
  refine ⟨env, L, M, he, hm, Fin.imp (Fin.bindS h) fun x H1 ⟨v, M1, L1, s1, m1, r1, h1⟩ => ?_⟩
  refine ⟨env, L1, M1, he.step s1, m1, Fin.imp (Fin.bindS h1) fun y H2 ⟨d, M2, L2, s2, m2, r2, h2⟩ => ?_⟩
  refine ⟨env, L2, M2, (he.step s1).step s2, m2, Fin.imp (Fin.bindS h2) fun z H3 ⟨j, M3, L3, s3, m3, r3, h3⟩ => ?_⟩
  have rv := (r1.step s2).step s3
  have rd := r2.step s3
  have e3 := ((he.step s1).step s2).step s3
  cases q : setMT M3 d j v with
  | none =>
    rw [q] at h3
    exact h3.elim
  | some M4 =>
    rw [q] at h3
    unfold setMT at q
    split at q
    · rename_i n
      split at q
      · rename_i ks ds hx
        obtain ⟨ad, rfl, hn⟩ := ref_inv rd
        obtain ⟨vs, q1, hl, rr⟩ := m3.cell _ ad _ hn hx
        split at q
        · rename_i k' hk
          split at q
          · rename_i hz
            cases q
            obtain ⟨bq, rfl, hb⟩ := keyT_ok nt r3 hk
            have lv : ks.length = vs.length := by rw [hl]; exact rr.length
            have lz : (ks.zip vs).length < sizeLine := by
              rw [List.length_zip, ← lv, Nat.min_self]
              have := szOk.lt hz
              omega
            have st := Step.put (o := .dT (putK (ks.zip vs) k' x)) m3 hn
            refine ⟨ad, _, rfl, DPut.t q1 hb lz, h3 L3 _ σ st (m3.put hn ⟨putZ ks vs k' x, ?_, keysZ_len hl, (putZ_ok rv hl rr).step st⟩) (e3.step st)⟩
            rw [upd_same, putK_zip lv]
          · cases q
        · cases q
      · cases q
    · cases q
end
section
variable {M : Mem} {n : Nat} {ks : List (List Key)} {ds : List D} {q : List Key} {e : D} {Q : D → Mem → Prop}
theorem dctOf_c (h : M[n]? = some (.dct ks ds)) : dctOf (.ref n) M = some (ks, ds) := by
  simp only [dctOf, h]
theorem go_ixT' (h : M[n]? = some (.dct ks ds)) (hk : keyT e = some q) : Go (opIxT (.ref n) e M) Q = ∃ v, atZ ks ds q = some v ∧ Q v M := by
  have e1 : opIxT (.ref n) e M = (match atZ ks ds q with
    | some v => .ok v M
    | none => .bad) := by
    unfold opIxT
    simp only [dctOf_c h, hk]
  rw [e1]
  cases atZ ks ds q <;> simp [Go]
theorem go_getT {env : Env} {mo ma mb : ME} : Go (mGetT mo ma mb env M) Q = Go (mo env M) fun d M1 => (dctOf d M1).isSome = true ∧ Go (ma env M1) fun y M2 => Go (mb env M2) fun z M3 => Go (opGetT d y z M3) Q := by
  unfold mGetT
  rw [go_bind]
  congr 1
  funext d M1
  rw [go_ite, go_bind]
  simp only [go_bind]
  by_cases h : (dctOf d M1).isSome = true
  · simp [h]
  · simp [h, Go]
theorem go_opGetT {z : D} (h : M[n]? = some (.dct ks ds)) (hk : keyT e = some q) : Go (opGetT (.ref n) e z M) Q = Q ((atZ ks ds q).getD z) M := by
  have e1 : opGetT (.ref n) e z M = .ok ((atZ ks ds q).getD z) M := by
    unfold opGetT
    simp only [dctOf_c h, hk]
  rw [e1]
  rfl
end
end Ly
namespace PySem
namespace Xv
open Builtin Builtin.ObjectAttr HandSPX
structure M3 (bm : List Value) (B : String) : Prop where
  has : bm.contains (.type B) = true
  noA : bm.contains (.type "AttributeError") = false
  noN : bm.contains (.type "NameError") = false
section
variable {M : Model} {A : Around} {E : Value → Shared → Prop} {h : Heap} {g : Array GenState} {d : Drawn} {t : Nat} {os : OsState}
variable {nm q : Str} {C N : Addr} {bs bm bmB : List Value} {hdct : Bool} {sn : List Str} {sub : List Value} {ab : Bool} {col : Option Bool} {dd : Option Addr} {k0 k1 k2 k3 k5 : Option Value} {B newId initId iB iId : String}
end
section
variable {prog : Program} {w : World} {A : Around} {E : Value → Shared → Prop} {R : Result → Shared → Prop} {h : Heap} {g : Array GenState} {d : Drawn} {t : Nat} {os : OsState}
variable {nm q : Str} {C N : Addr} {bs bm bmB : List Value} {hdct : Bool} {sn : List Str} {sub : List Value} {ab : Bool} {col : Option Bool} {dd : Option Addr} {k0 k1 k2 k3 k5 : Option Value} {B newId initId iB iId : String}
end
structure Pas (l : List Value) : Prop where
  pass : ∀ self : Value, refuseLoop self "__setattr__" l = pure ()
  obj : l.contains (.type "object") = true
theorem pas_VE {l : List Value} (h : refsVE l = true) : Pas l := ⟨fun s => refsVE_pass s l h, (refsVE_contains "object" l h).trans (by decide +kernel)⟩
section
variable {prog : Program} {w : World} {A : Around} {R : Result → Shared → Prop} {hp : Heap} {g : Array GenState} {d : Drawn} {t : Nat} {os : OsState}
end
end Xv
end PySem
namespace L2
open PySem PySem.Spec PyProof.Rows
structure OexG (K : PySem.W.Frag) (C : Addr) : Prop where
  cls : ∃ nm q N bs bm sn sub ab col dd k0 k1 k2 k3 k5 newId B iId bmB, K.lookup C = some (excClassObj nm q C N bs bm true sn sub ab col dd k0 k1 k2 k3 k5 newId) ∧ ExcBaseFacts B newId iId bmB ∧ Xv.M3 bm B ∧ Xv.Pas bm
  sa : PySem.W.findIn K (.ref C) "__setattr__" = some (some (.builtin "object.__setattr__"))
  kC : PySem.W.keepIn K (.ref C) = true
theorem OexC.g {K : PySem.W.Frag} {C : Addr} (T : OexC K C) : OexG K C := by
  obtain ⟨nm, q, N, bs, bm, sn, sub, ab, col, dd, k0, k1, k2, k3, k5, hC, hb⟩ := T.cls
  refine ⟨⟨nm, q, N, bs, bm, sn, sub, ab, col, dd, k0, k1, k2, k3, k5, _, _, _, _, hC, F.excBase_ValueError, ⟨?_, ?_, ?_⟩, Xv.pas_VE hb⟩, T.sa, T.kC⟩
  all_goals exact (PySem.HandSPX.refsVE_contains _ bm hb).trans (by decide +kernel)
section
variable {X : Cx} {pins : List (Addr × Obj)} {σ : St} {H : Hp} {s : Shared} {a C dx : Addr} {f : Str} {y : V} {u : Value} {fs : List (Str × V)} {Q : Unit → Shared → Prop} {E : Value → Shared → Prop} {A : Around}
end
section
variable {X : Cx} {o e : Expr} {es : List Expr} {to te : TE} {ta : TA} {f : Str} {p p' p1 p2 pos : Pos}
end
section
variable {P : Program} {w : World} {K : PySem.W.Frag} {mg : Str → Option Value} {base : Heap} {qual y f m : Str} {params : Arguments} {sc : Scope} {kws : List (Str × V)} {C fa : Addr} {fd : FuncData} {k j : Nat} {p1 p2 p3 p4 p5 p6 p7 p8 p9 p10 : Pos}
end
section
variable {X : Cx} {k n : Nat} {fI C : Addr} {fd : FuncData} {ps ks : List Str} {sp : Sp} {x : Str} {p pos : Pos} {e : Expr} {es : List Expr} {kws : List Keyword} {t tk : TA} {g : List Value → List Value → List Value} {gV : List V → List V → List V}
end
end L2
namespace L2
open PySem PySem.Spec PyProof.Rows
section
variable {P : Program} {w : World} {K : PySem.W.Frag} {mg : Str → Option Value} {base : Heap} {j n : Nat} {C fI : Addr} {fd : FuncData} {ps ks : List Str} {f f2 : Str} {g : List Value → List Value → List Value} {gV : List V → List V → List V}
end
section
variable {X : Cx} {j n : Nat} {C : Addr} {ks fld : List Str} {x : Str} {p pos apos : Pos} {o e : Expr} {es : List Expr} {kws : List Keyword} {t tk : TA} {to : TE} {f : Str}
end
end L2
namespace Ly
open PySem PySem.Spec PyProof.Rows L2
section
variable {G : Gd} {j k n : Nat} {E : XK} {N : List Str} {sc : Scope} {X : Cx} {e : Expr} {es : List Expr} {kws : List Keyword} {x f : Str} {ks fld : List Str} {mr mk : MA} {ma : ME} {p pos apos : Pos}
end
end Ly
namespace PySem.Xv
open PySem PySem.Spec PyProof.Rows RT Builtin
section
variable {prog : Program} {w : World} {A : Around} {E : Value → Shared → Prop} {s : Shared}
end
end PySem.Xv
namespace L2
open PySem PySem.Spec PyProof.Rows RT
section
variable {X : Cx}
end
end L2
namespace L2
open PySem PySem.Spec PyProof.Rows
end L2
namespace Ly
open PySem PySem.Spec PyProof.Rows L2
section
variable {G : Gd} {j : Nat} {x f f2 y z : Str} {fd : FuncData} {qual : Str} {params : Arguments} {body : List Stmt} {sc : Scope}
end
section
variable {G : Gd} {k : Nat} {E : XK} {N : List Str} {sc : Scope} {X : Cx} {e : Expr} {ma : ME} {p p2 pos pos2 : Pos}
end
end Ly
namespace L2
open PySem PySem.Spec PyProof.Rows CwR
def PTT (X : Cx) (e : Expr) (t : TT) : Prop :=
  ∀ (pins : List (Addr × Obj)) (s : Shared) (σ : St) (H : Hp) (Q : Bool → Hp → Prop), 1 ≤ s.toks → Inv X pins σ H s → t σ H Q → wpAny (model X.prog X.w) X.A (isTrue e X.env (eval e X.env)) (TP X pins σ Q) X.xe s
section
variable {X : Cx} {e f o a b : Expr} {te tf : TE} {ta tb to : TE} {tc : TT} {t u : TS} {x y : List Stmt} {pos apos : Pos} {st : Stmt} {rest : List Stmt} {name : Str} {T id : String} {r : V → List V → Hp → VK → Prop}
theorem PET.imp {t t' : TE} (h : PET X e t) (i : ∀ σ H Q, t' σ H Q → t σ H Q) : PET X e t' := fun pins s σ H Q h0 I q => h pins s σ H Q h0 I (i _ _ _ q)
theorem PTT.imp {t t' : TT} (h : PTT X e t) (i : ∀ σ H Q, t' σ H Q → t σ H Q) : PTT X e t' := fun pins s σ H Q h0 I q => h pins s σ H Q h0 I (i _ _ _ q)
theorem PST.imp {t t' : TS} (h : PST X st t) (i : ∀ D σ H, t' D σ H → t D σ H) : PST X st t' := fun pins s σ H D h0 I q => h pins s σ H D h0 I (i _ _ _ q)
theorem PSsT.imp {t t' : TS} (h : PSsT X rest t) (i : ∀ D σ H, t' D σ H → t D σ H) : PSsT X rest t' := fun pins s σ H D h0 I q => h pins s σ H D h0 I (i _ _ _ q)
end
end L2
namespace Ly
open PySem PySem.Spec PyProof.Rows L2 CwR
section
variable {G : Gd} {k : Nat} {E : XK} {N ps : List Str} {sc : Scope} {X : Cx} {a b e o : Expr} {x y : List Stmt} {ma mb mo : ME} {ta : MT} {m m' : MS} {st : Stmt} {rest : List Stmt} {pos apos cpos c0 c1 : Pos}
end
end Ly
namespace Ly
open PySem PySem.Spec PyProof.Rows L2
section
variable {G : Gd} {k : Nat} {E : XK} {N : List Str} {sc : Scope} {X : Cx} {e : Expr} {es : List Expr} {mr : MA} {pos p : Pos}
end
end Ly
namespace L2
open PySem PySem.Spec PyProof.Rows
section
variable {X : Cx} {es : List Expr} {t : TA} {pos : Pos}
def tTupF (t : TA) : TE := fun σ H Q => t σ H fun xs H1 => xs.length ≤ sizeLine ∧ ∀ p (o : Obj), H1 p = none → o.dict = none → Q (.ref p) (upd H1 p (.frz o (.tup xs)))
theorem pe_tupF {x1} (h : PA X es t) : PE X (.Tuple es x1 pos) (tTupF t) := by
  refine ⟨fun pins s σ H Q I hq => ?_⟩
  refine wpAny_Tuple_spliced (thn (h.run pos pins s σ H _ I hq) fun us s1 ⟨xs, H1, I1, r, z, q⟩ => ⟨by rw [← r.length]; exact z, ?_⟩)
  have hf : H1 s1.heap.objs.size = none := I1.hok.fresh (Nat.le_refl _)
  refine ⟨.ref s1.heap.objs.size, upd H1 s1.heap.objs.size (.frz _ (.tup xs)), I1.laid (t' := s1.toks) (fun b u e => Heap.get?_push_of_some _ e) (Nat.le_refl _) ⟨Heap.get?_push_size _ rfl, z, us, r, ⟨_, Heap.get?_push_size _ rfl, rfl, _, rfl⟩⟩, rfl, q _ _ hf rfl⟩
theorem call_tupleF : CallR X (.type "tuple") (fun xs H Q => ∃ p ys, xs = [.ref p] ∧ SqL X.K H p ys ∧ ∀ l (o : Obj), H l = none → o.dict = none → Q (.ref l) (upd H l (.frz o (.tup ys)))) := by
  intro pins s σ H xs us Q I r h
  obtain ⟨p, ys, rfl, hq, q⟩ := h
  obtain ⟨u, rfl, rx⟩ := vals1 r
  cases rx
  obtain ⟨its, r', pl, hz⟩ := I.list hq
  have hlen := r'.length
  refine call_tuple_list pl.isList (fun h' kp => ?_) (by simp only [List.size_toArray] <;> omega)
  have I1 : Inv X pins σ H { s with heap := h' } := I.kept (t' := s.toks) kp
  have I2 : Inv X pins σ (upd H h'.objs.size (.frz { cls := .type "tuple", data := .seq its.toArray } (.tup ys))) { s with heap := h'.push { cls := .type "tuple", data := .seq its.toArray } } :=
    I1.laid (t' := s.toks) (fun b o e => Heap.get?_push_of_some _ e) (Nat.le_refl _) (show ObjOk X.prog X.w _ _ _ (.frz _ (.tup ys)) from ⟨Heap.get?_push_size _ rfl, hz, its, r', IsTup.new _ _⟩)
  exact ⟨.ref h'.objs.size, _, I2, rfl, q _ _ (I1.hok.fresh (Nat.le_refl _)) rfl⟩
end
section
variable {X : Cx} {pins : List (Addr × Obj)} {σ : St} {H : Hp} {s : Shared}
theorem pairsF (I : Inv X pins σ H s) : ∀ {ps : List Addr} {kvs : List (List Key × Addr × V)}, Paired (fun p kv => SqT X.K H p [.ref kv.2.1, kv.2.2] ∧ H kv.2.1 = some (.tup (kv.1.map kV))) ps kvs →
    ∃ xs : List (List Key × Addr × Value), KT H (kvs.map fun kv => (kv.1, kv.2.2)) xs ∧ xs.length = ps.length ∧ xs.map (·.1) = kvs.map (·.1) ∧ (∀ x ∈ xs, H x.2.1 = some (.tup (x.1.map kV))) ∧
      ∀ (j : Nat) (x : List Key × Addr × Value), xs[j]? = some x → ∃ p, ps[j]? = some p ∧ s.heap.IsTuple p #[.ref x.2.1, x.2.2]
  | _, _, .nil => ⟨[], .nil, rfl, rfl, fun _ h => (nomatch h), fun _ _ h => by simp at h⟩
  | p :: ps, kv :: kvs, .cons ⟨q, hk⟩ t => by
    obtain ⟨xs, e1, e2, e3, e4, e5⟩ := pairsF I t
    obtain ⟨its, rv, pt, hz⟩ := I.tuple q
    obtain ⟨u1, u2, rfl, r1, r2⟩ := rv.two
    cases r1
    refine ⟨(kv.1, kv.2.1, u2) :: xs, .cons ⟨rfl, hk, r2⟩ e1, by simp [e2], by simp [e3], fun x hx => ?_, fun j x hj => ?_⟩
    · rcases List.mem_cons.mp hx with rfl | hx
      · exact hk
      · exact e4 x hx
    · cases j with
      | zero =>
        cases hj
        exact ⟨p, rfl, pt⟩
      | succ j => exact e5 j x hj
end
theorem atKey_none {K : Type} [DecidableEq K] {k : K} : ∀ {xs : List (K × Addr × Value)}, k ∉ xs.map (·.1) → atKey xs k = none := by
  intro xs h
  unfold atKey
  rw [Option.map_eq_none_iff, List.find?_eq_none]
  intro x hx hk
  have hk' : x.1 = k := by simpa using hk
  exact h (List.mem_map.mpr ⟨x, hx, hk'⟩)
theorem stored_new {K : Type} [DecidableEq K] : ∀ (ps xs : List (K × Addr × Value)), ((xs ++ ps).map (·.1)).Nodup → PySem.storedAllH xs ps = xs ++ ps
  | [], xs, _ => by rw [List.append_nil]; rfl
  | p :: ps, xs, h => by
    have hn : p.1 ∉ xs.map (·.1) := by
      rw [List.map_append, List.map_cons, List.nodup_append] at h
      intro hm
      exact h.2.2 _ hm _ (List.mem_cons_self ..) rfl
    show PySem.storedAllH (storedH xs p.1 p.2.1 p.2.2) ps = _
    rw [storedH_new (atKey_none hn), stored_new ps (xs ++ [(p.1, p.2.1, p.2.2)]) (by rw [List.append_assoc]; exact h), List.append_assoc]
    rfl
section
variable {X : Cx}
theorem call_dictF (hcalm : X.calm = true) (hu : X.A.units + 4 < cLine) : CallR X (.type "dict") (fun xs H Q => ∃ (a : Addr) (o : Obj) (ps : List Addr) (kvs : List (List Key × Addr × V)), xs = [.ref a] ∧ H a = some (.frz o (.tup (ps.map V.ref))) ∧ o.dict = none ∧
    Paired (fun p kv => SqT X.K H p [.ref kv.2.1, kv.2.2] ∧ H kv.2.1 = some (.tup (kv.1.map kV))) ps kvs ∧ (kvs.map (·.1)).Nodup ∧ ∀ p, H p = none → Q (.ref p) (upd H p (.dT (kvs.map fun kv => (kv.1, kv.2.2))))) := by
  intro pins s σ H xs us Q I r q
  obtain ⟨a, o, ps, kvs, rfl, hq, hd, hp, nd, q⟩ := q
  obtain ⟨u, rfl, rx⟩ := vals1 r
  cases rx
  obtain ⟨ho, hz, its, rv, o', ho', hc, n, hdat⟩ := (show ObjOk X.prog X.w H s.heap a (.frz o (.tup (ps.map V.ref))) from I.hok a _ hq)
  rw [ho] at ho'
  cases ho'
  obtain rfl := refs_at rv
  obtain ⟨xs, kt, hl, hk, hkeys, hat⟩ := pairsF I hp
  have hx0 : ∀ j : Nat, (xs.map fun x : List Key × Addr × Value => (Value.ref x.2.1, x.2.2))[j]? = (xs[j]?).map fun x : List Key × Addr × Value => (Value.ref x.2.1, x.2.2) := fun j => List.getElem?_map
  have key : ∀ {h : Heap}, (∀ b o, s.heap.get? b = some o → h.get? b = some o) → ∀ x ∈ xs, (tupleKind (mixKind X.prog X.w)).is h x.1 x.2.1 := fun kp x hx => by
    obtain ⟨ov, iv, nv, hov, hcv, hdv, hiv⟩ := (show IsTupleKey (mixKind X.prog X.w) s.heap x.1 x.2.1 from key_of I.hok (hkeys x hx))
    exact ⟨ov, iv, nv, kp _ _ hov, hcv, hdv, hiv⟩
  refine PySem.call_dict_pairsH (knd := tupleKind (mixKind X.prog X.w)) (ps := xs) (PySem.PairArg.tuple a (ps.map Value.ref).toArray (fun j => (ps[j]?).getD 0) (xs.map fun x : List Key × Addr × Value => (Value.ref x.2.1, x.2.2))) (I.ok.hd hcalm) (by show X.A.units + 1 + 1 < cLine; omega)
    ⟨⟨o, n, ho, hc, hd, hdat⟩, by simp [hl], fun j k v hj => ?_⟩ ⟨by simp, fun i k v hj => ?_⟩ (fun h' kp x hx => ?_) (by simp only [List.length_map] at hz ⊢; omega) fun h' tk hD kp => ?_
  · rw [hx0] at hj
    obtain ⟨x, e1, e2⟩ := Option.map_eq_some_iff.mp hj
    cases e2
    obtain ⟨p, e3, e4⟩ := hat j x e1
    exact ⟨by simp [e3], .inl (by show s.heap.IsTuple ((ps[j]?).getD 0) _; rw [e3]; exact e4)⟩
  · have hj' : (xs.map fun x : List Key × Addr × Value => (Value.ref x.2.1, x.2.2))[i]? = some (k, v) := hj
    rw [hx0] at hj'
    obtain ⟨x, e1, e2⟩ := Option.map_eq_some_iff.mp hj'
    cases e2
    exact ⟨x.1, x.2.1, e1, rfl⟩
  · obtain ⟨ov, iv, nv, hov, hcv, hdv, hiv⟩ := (show IsTupleKey (mixKind X.prog X.w) s.heap x.1 x.2.1 from key_of I.hok (hkeys x hx))
    exact ⟨ov, iv, nv, kp _ _ (Nat.ne_of_lt (Heap.lt_size hov)) (fun z => nomatch z) hov, hcv, hdv, hiv⟩
  · have hm : (s.heap.objs.size == sysModules) = false := beq_eq_false_iff_ne.mpr (Nat.ne_of_gt I.big)
    rw [stored_new xs [] (by rw [List.nil_append, hk]; exact nd), List.nil_append] at hD
    obtain ⟨o2, es, ep, h1, h2, h3, h4, _, h5⟩ := hD
    have hf : H s.heap.objs.size = none := I.hok.fresh (Nat.le_refl _)
    exact ⟨.ref s.heap.objs.size, upd H s.heap.objs.size (.dT (kvs.map fun kv => (kv.1, kv.2.2))), I.laid (t' := tk) (fun b u e => kp b u (fun z => nomatch z) e) (Nat.le_refl _)
      (show ObjOk X.prog X.w _ _ _ (.dT (kvs.map fun kv => (kv.1, kv.2.2))) from ⟨by rw [kt.length, hl]; simp only [List.length_map] at hz; exact hz, hm, xs, kt.keeps fun c ys ec => by rw [upd_ne (ne_of_none ec hf)]; exact ec, o2, es, ep, h1, h2, h3, h4, h5⟩), rfl, q _ hf⟩
end
end L2
namespace Ly
open PySem PySem.Spec PyProof.Rows L2
def mTupF (r : MA) : ME := fun env M => (r env M).bind fun ds M1 => if szOk ds.length then .ok (.ftu ds) M1 else .bad
def fTupF : MF := fun ds M => match ds with
  | [d] => (match lstOf d M with
    | some xs => .ok (.ftu xs) M
    | none => .bad)
  | _ => .bad
def pairsT : List D → Option (List (List Key) × List D)
  | [] => some ([], [])
  | .tup [k, v] :: ds => (keyT k).bind fun key => (pairsT ds).map fun r => (key :: r.1, v :: r.2)
  | _ => none
def fDictT : MF := fun ds M => match ds with
  | [.ftu xs] => (match pairsT xs with
    | some (ks, vs) => if ks.Nodup then .ok (.ref M.length) (M ++ [.dct ks vs]) else .bad
    | none => .bad)
  | _ => .bad
section
variable {K : PySem.W.Frag} {L : Wd} {H : Hp} {M : Mem}
theorem rs_tupleF : RSC K (fun xs H Q => ∃ p ys, xs = [.ref p] ∧ SqL K H p ys ∧ ∀ l (o : Obj), H l = none → o.dict = none → Q (.ref l) (upd H l (.frz o (.tup ys)))) fTupF := by
  intro E L H M ds xs Q m rl h
  unfold fTupF at h
  split at h
  · obtain ⟨v, rfl, r⟩ := one_inv rl
    split at h
    · rename_i ys hs
      obtain ⟨a, vs, rfl, q, rk⟩ := lstOf_ok m r hs
      refine ⟨a, vs, rfl, q, fun l o hl ho => ?_⟩
      have st := Step.new (o := .frz o (.tup vs)) m hl
      exact h L _ _ st.1 (m.new hl) (.ftu upd_same ho st.2 (rk.step st.1))
    · exact h.elim
  · exact h.elim
theorem pairsT_ok (nt : NoTup K) : ∀ {xs : List D} {vs : List V} {ks : List (List Key)} {es : List D}, IsL K L H xs vs → pairsT xs = some (ks, es) →
    ∃ (ps : List Addr) (kvs : List (List Key × Addr × V)), vs = ps.map V.ref ∧ Paired (fun p kv => SqT K H p [.ref kv.2.1, kv.2.2] ∧ H kv.2.1 = some (.tup (kv.1.map kV))) ps kvs ∧ kvs.map (·.1) = ks ∧ IsL K L H es (kvs.map (·.2.2))
  | _, _, _, _, .nil, h => by
    cases h
    exact ⟨[], [], rfl, .nil, rfl, .nil⟩
  | d :: xs, _, _, _, .cons r t, h => by
    unfold pairsT at h
    split at h
    · next e => cases e
    · next kd vd ds0 e =>
      cases e
      obtain ⟨key, hk, h⟩ := Option.bind_eq_some_iff.mp h
      obtain ⟨rest, hr, h⟩ := Option.map_eq_some_iff.mp h
      cases h
      obtain ⟨ps, kvs, e1, e2, e3, e4⟩ := pairsT_ok nt t hr
      obtain ⟨a, ws, rfl, q, rl⟩ := r.tup_inv
      obtain ⟨v, w, rfl, rv, rw'⟩ := two_inv rl
      obtain ⟨b, rfl, hb⟩ := keyT_ok nt rv hk
      exact ⟨a :: ps, (key, b, w) :: kvs, by rw [e1]; rfl, .cons ⟨q, hb⟩ e2, by rw [List.map_cons, e3], .cons rw' e4⟩
    · cases h
theorem rs_dictT (nt : NoTup K) : RSC K (fun xs H Q => ∃ (a : Addr) (o : Obj) (ps : List Addr) (kvs : List (List Key × Addr × V)), xs = [.ref a] ∧ H a = some (.frz o (.tup (ps.map V.ref))) ∧ o.dict = none ∧
    Paired (fun p kv => SqT K H p [.ref kv.2.1, kv.2.2] ∧ H kv.2.1 = some (.tup (kv.1.map kV))) ps kvs ∧ (kvs.map (·.1)).Nodup ∧ ∀ p, H p = none → Q (.ref p) (upd H p (.dT (kvs.map fun kv => (kv.1, kv.2.2))))) fDictT := by
  intro E L H M ds xs Q m rl h
  unfold fDictT at h
  split at h
  · obtain ⟨v, rfl, r⟩ := one_inv rl
    split at h
    · rename_i ks es hy
      split at h
      · rename_i hn
        cases r with
        | ftu e hd n r1 =>
          obtain ⟨ps, kvs, rfl, e2, e3, e4⟩ := pairsT_ok nt r1 hy
          refine ⟨_, _, ps, kvs, rfl, e, hd, e2, by rw [e3]; exact hn, fun p hp => ?_⟩
          have st := Step.cell (o := .dT (kvs.map fun kv => (kv.1, kv.2.2))) m hp
          have lp : (L.add p).l[M.length]? = some p := by
            rw [← m.len]
            simp [Wd.add]
          have ez : kvs.map (fun kv => (kv.1, kv.2.2)) = ks.zip (kvs.map (·.2.2)) := by
            rw [← e3]
            clear e2 e3 e4 st hn hy e
            induction kvs with
            | nil => rfl
            | cons x r ih => simp only [List.map_cons, List.zip_cons_cons, ih]
          refine h (L.add p) _ _ st (m.push hp ⟨kvs.map (·.2.2), by rw [← ez]; exact upd_same, ?_, e4.step st⟩) (.ref lp)
          rw [← e3, e4.length, List.length_map, List.length_map]
      · exact h.elim
    · exact h.elim
  · exact h.elim
end
section
variable {G : Gd} {k : Nat} {E : XK} {N : List Str} {sc : Scope} {X : Cx} {a e : Expr} {es : List Expr} {ma : ME} {mr : MA} {pos p : Pos}
theorem ce_tupF {x1} (h : PA X es (tAD G.K E mr)) : PE X (.Tuple es x1 pos) (tD G.K E (mTupF mr)) := by
  refine (pe_tupF h).imp fun σ H Q ⟨env, L, M, he, hm, h⟩ => ?_
  refine ⟨env, L, M, he, hm, Fin.imp (Fin.bind h) fun x H1 ⟨d, M1, L1, s1, m1, r1, h1⟩ => ?_⟩
  split at h1
  · rename_i hz
    refine ⟨by rw [← r1.length]; exact szOk.le hz, fun p o hp ho => ?_⟩
    have st := Step.new (o := .frz o (.tup x)) m1 hp
    exact h1 L1 _ _ st.1 (m1.new hp) (.ftu upd_same ho st.2 (r1.step st.1))
  · exact h1.elim
theorem ce_tupleF (c : Cq G k E N sc X) (hm : G.mg "tuple" = none) (ha : PA X (e :: es) (tAD G.K E mr)) (hg : sc.names.lookup ("tuple" : Str) = some NameKind.globalImplicit := by rfl)
    (he : starEach (e :: es) X.env = (false, eval e X.env) :: starEach es X.env := by rfl) (hpl : (backTo pos (starEach es X.env)).any (·.1) = false := by rfl) :
    PE X (.Call (.Name "tuple" p) (e :: es) [] pos) (tD G.K E (mCB fTupF mr)) := by
  obtain rfl := c.g
  exact ce_callT call_tupleF rs_tupleF c hg hm (by decide +kernel) ha (by decide +kernel) (by decide +kernel) he hpl
theorem ce_dictT (nt : NoTup G.K) (c : Cq G k E N sc X) (hm : G.mg "dict" = none) (ha : PA X (e :: es) (tAD G.K E mr)) (hg : sc.names.lookup ("dict" : Str) = some NameKind.globalImplicit := by rfl)
    (he : starEach (e :: es) X.env = (false, eval e X.env) :: starEach es X.env := by rfl) (hpl : (backTo pos (starEach es X.env)).any (·.1) = false := by rfl) :
    PE X (.Call (.Name "dict" p) (e :: es) [] pos) (tD G.K E (mCB fDictT mr)) := by
  obtain rfl := c.g
  exact ce_callT (call_dictF c.calm (by have := hu64 c.room; omega)) (rs_dictT nt) c hg hm (by decide +kernel) ha (by decide +kernel) (by decide +kernel) he hpl
end
section
variable {r : MA} {env : Env} {M : Mem} {Q : D → Mem → Prop} {ds : List D}
theorem go_tupF : Go (mTupF r env M) Q = Go (r env M) fun ds M1 => szOk ds.length = true ∧ Q (.ftu ds) M1 := by
  show Go ((r env M).bind _) Q = _
  cases r env M with
  | ok ds M1 => exact go_iteC
  | exc x M1 => rfl
  | bad => rfl
theorem go_tupleFF : Go (fTupF [.lst ds] M) Q = Q (.ftu ds) M := id rfl
theorem go_dictT {xs : List D} {ks : List (List Key)} {vs : List D} (h : pairsT xs = some (ks, vs)) : Go (fDictT [.ftu xs] M) Q = (ks.Nodup ∧ Q (.ref M.length) (M ++ [Cell.dct ks vs])) := by
  have e : fDictT [.ftu xs] M = if ks.Nodup then .ok (.ref M.length) (M ++ [Cell.dct ks vs]) else .bad := by
    show (match pairsT xs with
      | some (ks, vs) => if ks.Nodup then Res.ok (D.ref M.length) (M ++ [Cell.dct ks vs]) else .bad
      | none => .bad) = _
    rw [h]
  rw [e]
  exact go_iteC
end
end Ly
namespace L2
open PySem PySem.Spec PyProof.Rows
section
variable {prog : Program} {w : World} {A : Around} {E : Value → Shared → Prop} {s : Shared} {β : Type} {R : Value → β → Prop} {enc : β → PyData} {vs : List Value} {bs : List β}
theorem small_perm {α : Type} : ∀ {l m : List α}, l.Perm m → m.length ≤ 1 → l = m
  | l, [], h, _ => by simpa using h
  | l, [x], h, _ => by simpa using h
  | _, _ :: _ :: _, _, h => by simp at h
theorem small_sort {α : Type} {le : α → α → Bool} : ∀ {m : List α}, m.length ≤ 1 → m.mergeSort le = m
  | [], _ => by simp
  | [x], _ => by simp
  | _ :: _ :: _, h => by simp at h
theorem list_sort_any {a : Addr} {n : Nat} {Q : Value → Shared → Prop} (ho : s.heap.get? a = some (seqObj "list" vs.toArray n)) (e : PySem.W.EachIs R vs bs) (er : PySem.W.EachIs (fun v b => ∃ as, Reads s.heap v (enc b) as ∧ a ∉ as) vs bs) (hal : PySem.W.AllAlike (bs.map enc)) (hk : bs.length ≤ 1 ∨ PySem.W.Sortable (bs.map enc)) (hL : bs.length ≤ sizeLine)
    (hu : ∀ b, b ∈ bs → A.units + 1 + (enc b).depth < cLine) (h : ∀ out, out.length = bs.length → PySem.W.EachIs R out (bs.mergeSort (PySem.W.dataLe false enc)) → Q .none { s with heap := sortedHeap s.heap a vs (List.toArray out) }) :
    wpAny (model prog w) A (call (.builtin "list.sort") [.ref a]) Q E s := by
  rcases hk with hk | hk
  · refine wpAny_call_entry slot_list_sort ⟨_, ho, rfl⟩ entry_list_sort (SK.plain_sort (r := fun _ => 0) ho (by rw [e.length]; omega) (fun h2 Q hQ => absurd h2 (by rw [e.length]; omega)) fun ps out h1 h2 h3 => ⟨.none, rfl, ?_⟩) (args_list_sort _)
    have e1 : ps = vs.zip vs := small_perm h2 (by rw [List.length_zip, e.length]; omega)
    have e2 : out = vs.toArray := by
      apply Array.ext'
      rw [h1, e1, List.map_snd_zip (Nat.le_refl _)]
    subst e2
    exact h vs e.length (by rw [small_sort hk]; exact e)
  · exact PySem.W.list_sort_data ho e er hal hk hL hu h
theorem each_refs {ad : β → Addr} : ∀ (bs : List β), PySem.W.EachIs (fun v b => v = Value.ref (ad b)) (bs.map fun b => Value.ref (ad b)) bs
  | [] => .nil
  | b :: bs => .cons rfl (each_refs bs)
theorem each_refs_eq {ad : β → Addr} : ∀ {out : List Value} {bs : List β}, PySem.W.EachIs (fun v b => v = Value.ref (ad b)) out bs → out = bs.map fun b => Value.ref (ad b)
  | _, _, .nil => rfl
  | _, _, .cons h t => by rw [h, each_refs_eq t]; rfl
theorem each_of_all {P : Value → β → Prop} {ad : β → Addr} : ∀ {bs : List β}, (∀ b ∈ bs, P (.ref (ad b)) b) → PySem.W.EachIs P (bs.map fun b => Value.ref (ad b)) bs
  | [], _ => .nil
  | b :: bs, h => .cons (h b (List.mem_cons_self ..)) (each_of_all fun c hc => h c (List.mem_cons_of_mem _ hc))
theorem sort_tail {h' : Heap} {tk : Nat} {ad : β → Addr} {Q : Shared → Prop} (er : ∀ b ∈ bs, ∃ as, Reads h' (.ref (ad b)) (enc b) as) (hal : PySem.W.AllAlike (bs.map enc)) (hk : bs.length ≤ 1 ∨ PySem.W.Sortable (bs.map enc)) (hL : bs.length ≤ sizeLine)
    (hu : ∀ b, b ∈ bs → A.units + 1 + (enc b).depth < cLine)
    (h : ∀ (h2 : Heap) (c : Nat), (∀ b o, h'.get? b = some o → h2.get? b = some o) → h2.get? h'.objs.size = some { cls := .type "list", data := .seq ((bs.mergeSort (PySem.W.dataLe false enc)).map fun b => Value.ref (ad b)).toArray c } → Q { s with heap := h2, toks := tk }) :
    wpAny (model prog w) A (call (.builtin "list.sort") [.ref h'.objs.size]) (fun _ s' => Q s') E { s with heap := h'.push { cls := .type "list", data := .seq (bs.map fun b => Value.ref (ad b)).toArray }, toks := tk } := by
  have hob : (h'.push { cls := .type "list", data := .seq (bs.map fun b => Value.ref (ad b)).toArray }).get? h'.objs.size = some (seqObj "list" (bs.map fun b => Value.ref (ad b)).toArray 0) := Heap.get?_push_size _ rfl
  refine list_sort_any (s := { s with heap := h'.push { cls := .type "list", data := .seq (bs.map fun b => Value.ref (ad b)).toArray }, toks := tk }) (R := fun v b => v = Value.ref (ad b)) (enc := enc) (bs := bs) hob (each_refs bs) (each_of_all fun b hb => ?_) hal hk hL hu fun out hl eo => ?_
  · obtain ⟨as, r⟩ := er b hb
    refine ⟨as, PyProof.Rows.Reads.keeps (fun c o q => Heap.get?_push_of_some _ q) r, fun hm => ?_⟩
    obtain ⟨o, ho⟩ := PyProof.On.reads_mem_get r _ hm
    exact absurd (Heap.lt_size ho) (Nat.lt_irrefl _)
  · obtain rfl := each_refs_eq eo
    obtain ⟨c, hc⟩ := PyProof.Rows.sortedHeap_at (vs := bs.map fun b => Value.ref (ad b)) (out := ((bs.mergeSort (PySem.W.dataLe false enc)).map fun b => Value.ref (ad b)).toArray) hob
    exact h _ c (fun b o q => (PyProof.Rows.sortedHeap_old (Nat.ne_of_lt (Heap.lt_size q)) (Heap.lt_size (Heap.get?_push_of_some _ q))).trans (Heap.get?_push_of_some _ q)) hc
end
end L2
namespace L2
open PySem PySem.Spec PyProof.Rows
def leZ (a b : List Int) : Bool := !PySem.W.dataLt (.tuple (b.map .int)) (.tuple (a.map .int))
abbrev encZ (b : List Int × Addr) : PyData := .tuple (b.1.map .int)
def encP (z : List Int × Int) : PyData := .tuple [.tuple (z.1.map .int), .int z.2]
def leP (a b : List Int × Int) : Bool := !PySem.W.dataLt (encP b) (encP a)
theorem alike_tup (a b : List Int) : PySem.W.alike (.tuple (a.map .int)) (.tuple (b.map .int)) = true := by
  unfold PySem.W.alike
  exact PySem.W.alike_ints a b
theorem alike_P (a b : List Int × Int) : PySem.W.alike (encP a) (encP b) = true := by
  unfold encP
  simp only [PySem.W.alike, PySem.W.alikeAll, PySem.W.alike_ints, Bool.and_self]
theorem depth_tup (a : List Int) : (PyData.tuple (a.map .int)).depth = 1 := by
  show PyData.depthAll (a.map .int) + 1 = 1
  rw [PySem.W.depth_ints]
theorem depth_P (a : List Int × Int) : (encP a).depth = 2 := by
  show max (PyData.depthAll (a.1.map .int) + 1) (max 0 0) + 1 = 2
  rw [PySem.W.depth_ints]
  rfl
theorem dpAll_ints {K : PySem.W.Frag} {H : Hp} : ∀ xs : List Int, DpAll K H (xs.map V.int) (xs.map .int)
  | [] => .nil
  | x :: xs => .cons (.int x) (dpAll_ints xs)
theorem vals_refsOf {β : Type} {ad : β → Addr} : ∀ bs : List β, Vals (bs.map fun b => V.ref (ad b)) (bs.map fun b => Value.ref (ad b))
  | [] => .nil
  | b :: bs => .cons rfl (vals_refsOf bs)
theorem kV_ints : ∀ z : List Int, (z.map (Sum.inl : Int → Key)).map kV = z.map V.int
  | [] => rfl
  | x :: z => by rw [List.map_cons, List.map_cons, kV_ints z]; rfl
section
variable {X : Cx}
theorem call_sortedT (hcalm : X.calm = true) (hu : X.A.units + 64 < cLine) : CallR X (.builtin "sorted") (fun xs H Q => ∃ (a : Addr) (kvs : List (List Key × V)) (zs : List (List Int)), xs = [.ref a] ∧ H a = some (.dT kvs) ∧ kvs.map (·.1) = zs.map (fun z => z.map (Sum.inl : Int → Key)) ∧ (zs.length ≤ 1 ∨ ∀ z ∈ zs, z ≠ []) ∧
    ∀ (ys : List (List Int × Addr)) (l : Addr), ys.map (·.1) = zs.mergeSort leZ → (∀ y ∈ ys, H y.2 = some (.tup (y.1.map V.int))) → H l = none → Q (.ref l) (upd H l (.lst (ys.map fun y => V.ref y.2)))) := by
  intro pins s σ H xs us Q I r q
  obtain ⟨a, kvs, zs, rfl, hd, hks, hz, q⟩ := q
  obtain ⟨u, rfl, rx⟩ := vals1 r
  cases rx
  obtain ⟨z, lo, xs', rel, o, es, ep, ho, hx, hdat, hes, his, hn⟩ := dt_of I.hok hd
  have hl : es.size = xs'.length := size_of_entries hes
  have hl2 : kvs.length = xs'.length := Paired.length rel
  have hl3 : kvs.length = zs.length := by
    have e := congrArg List.length hks
    simpa using e
  refine Calls.call_function_entry PyProof.Rows.kind_sorted PyProof.Rows.plain_sorted PyProof.Rows.entry_sorted (PyProof.Rows.args_sorted1 _) ?_
  unfold Builtin.«sorted»
  refine wpAny_bind (m := checkCount "sorted" 1 1 _) (wpAny_pure ?_)
  refine wpAny_bind (PySem.W.kdu_collect (A := X.A.in1) (kdl_raw lo hx hdat) (I.ok.hd hcalm) ho (by omega) fun h' tk acc hk hacc => ?_)
  have at_ : ∀ (j : Nat) (x : List Key × Addr × Value), xs'[j]? = some x → ∃ zj, zs[j]? = some zj ∧ H x.2.1 = some (.tup (zj.map V.int)) := fun j x hj => by
    obtain ⟨p, e1, e2, e3, e4⟩ := DX.pget rel hj
    have e5 : (kvs.map (·.1))[j]? = some p.1 := by rw [List.getElem?_map, e1]; rfl
    rw [hks, List.getElem?_map] at e5
    obtain ⟨zj, e6, e7⟩ := Option.map_eq_some_iff.mp e5
    refine ⟨zj, e6, ?_⟩
    rw [e3, ← e7, kV_ints]
  have hb1 : (zs.zip (xs'.map (·.2.1))).map (·.1) = zs := List.map_fst_zip (by rw [List.length_map]; omega)
  have hbl : (zs.zip (xs'.map (·.2.1))).length = zs.length := by rw [List.length_zip, List.length_map]; omega
  have hkey : ∀ b ∈ zs.zip (xs'.map (·.2.1)), H b.2 = some (.tup (b.1.map V.int)) := fun b hb => by
    obtain ⟨j, hj⟩ := List.mem_iff_getElem?.mp hb
    obtain ⟨e1, e2⟩ := List.getElem?_zip_eq_some.mp hj
    rw [List.getElem?_map] at e2
    obtain ⟨x, e3, e4⟩ := Option.map_eq_some_iff.mp e2
    obtain ⟨zj, e5, e6⟩ := at_ j x e3
    rw [e5] at e1
    cases e1
    rw [← e4]
    exact e6
  have hacc' : acc.toList = (zs.zip (xs'.map (·.2.1))).map fun b => Value.ref b.2 := by
    have e0 : (zs.zip (xs'.map (·.2.1))).map (fun b => Value.ref b.2) = xs'.map fun x => Value.ref x.2.1 := by
      have e : (zs.zip (xs'.map (·.2.1))).map (fun b => Value.ref b.2) = ((zs.zip (xs'.map (·.2.1))).map (·.2)).map Value.ref := by rw [List.map_map]; rfl
      rw [e, List.map_snd_zip (by rw [List.length_map]; omega), List.map_map]
      rfl
    rw [e0]
    apply List.ext_getElem?
    intro j
    rw [List.getElem?_map]
    cases hj : xs'[j]? with
    | none =>
      have : es.size ≤ j := by rw [hl]; exact List.getElem?_eq_none_iff.mp hj
      exact List.getElem?_eq_none_iff.mpr (by rw [Array.length_toList, hacc.1]; exact this)
    | some x =>
      have hlt : j < acc.size := by rw [hacc.1, hl]; exact (List.getElem?_eq_some_iff.mp hj).1
      obtain ⟨en, e1, e2⟩ := hacc.2 j acc[j] (Array.getElem?_eq_getElem hlt)
      rw [entry_at hes j, hj] at e1
      cases e1
      rw [Array.getElem?_toList, Array.getElem?_eq_getElem hlt, e2]
      rfl
  rw [hacc']
  refine wpAny_bind (wpAny_newList ?_ (by rw [List.length_map, hbl]; omega))
  refine wpAny_bind (wpAny_holding (wpAny_mono (sort_tail (s := s) (bs := zs.zip (xs'.map (·.2.1))) (enc := encZ) (ad := fun b => b.2) (h' := h') (tk := tk) (Q := fun s' => EP X pins σ Q (.ref h'.objs.size) s') (fun b hb => ?_) (PySem.W.AllAlike.of fun b b' => alike_tup b.1 b'.1) ?_ (by rw [hbl]; omega) (fun b _ => by rw [depth_tup]; show X.A.units + 1 + 1 + 1 < cLine; omega) fun h2 c k2 g2 => ?_) (fun _ s' x => wpAny_pure ⟨_, rfl, x⟩) fun _ _ e => e))
  · obtain ⟨as, rr⟩ := Dp.reads I (encZ b) (.ref b.2) (.ref b.2) (.tup (.inl (.inl (hkey b hb))) (dpAll_ints b.1)) rfl
    exact ⟨as, PyProof.Rows.Reads.keeps hk rr⟩
  · refine hz.imp (fun h => by rw [hbl]; exact h) fun h => .inl fun d hd => ?_
    obtain ⟨b, hb, rfl⟩ := List.mem_map.mp hd
    have hb1' : b.1 ∈ zs := by
      rw [← hb1]
      exact List.mem_map.mpr ⟨b, hb, rfl⟩
    have hne := h _ hb1'
    cases e : b.1 with
    | nil => exact absurd e hne
    | cons x r => exact ⟨.int x, r.map .int, by show PyData.tuple (b.1.map .int) = _; rw [e]; rfl⟩
  · have I1 : Inv X pins σ H { s with heap := h', toks := tk } := I.kept (t' := tk) hk
    have hlen : ((zs.zip (xs'.map (·.2.1))).mergeSort (PySem.W.dataLe false encZ)).length = zs.length := by rw [List.length_mergeSort, hbl]
    have I2 : Inv X pins σ (upd H h'.objs.size (.lst (((zs.zip (xs'.map (·.2.1))).mergeSort (PySem.W.dataLe false encZ)).map fun y => V.ref y.2))) { s with heap := h2, toks := tk } :=
      I1.laid (t' := tk) k2 (Nat.le_refl _) (show ObjOk X.prog X.w _ _ _ (.lst _) from ⟨by rw [List.length_map, hlen]; omega, _, c, vals_refsOf _, g2⟩)
    refine ⟨.ref h'.objs.size, _, I2, rfl, q ((zs.zip (xs'.map (·.2.1))).mergeSort (PySem.W.dataLe false encZ)) h'.objs.size ?_ (fun y hy => hkey y ?_) (I1.hok.fresh (Nat.le_refl _))⟩
    · exact (List.map_mergeSort (r := PySem.W.dataLe false encZ) (s := leZ) (f := fun x : List Int × Addr => x.1) (fun a _ b _ => rfl)).trans (by rw [hb1])
    · exact (List.mergeSort_perm _ _).mem_iff.mp hy
end
end L2
namespace L2
open PySem PySem.Spec PyProof.Rows
section
variable {X : Cx}
def rSortP : List V → Hp → VK → Prop := fun vs H Q => ∃ (p a : Addr) (zs : List (List Int × Int)), vs = [.ref p] ∧ H p = some (DX.itemsO p a) ∧ H a = some (.dT (zs.map fun z => (z.1.map (Sum.inl : Int → Key), V.int z.2))) ∧ zs.length ≤ 100000 ∧
  ∀ (H' : Hp) (l : Addr) (ys : List ((List Int × Int) × Addr)), (∀ b o, H b = some o → H' b = some o) → H l = none → ys.map (·.1) = zs.mergeSort leP → H' l = some (.lst (ys.map fun y => V.ref y.2)) →
    (∀ y ∈ ys, ∃ q, H' y.2 = some (.tup [.ref q, .int y.1.2]) ∧ H' q = some (.tup (y.1.1.map V.int))) → Q (.ref l) H'
theorem call_sortedP (hcalm : X.calm = true) (hu : X.A.units + 64 < cLine) : CallR X (.builtin "sorted") rSortP := by
  intro pins s σ H xs us Q I r h
  obtain ⟨p, a, zs, rfl, hp, ha, hz, q⟩ := h
  obtain rfl := Vals.ref1 r
  have view : s.heap.IsItemsView p a := (show ObjOk X.prog X.w H s.heap p (DX.itemsO p a) from I.hok p _ hp).1
  obtain ⟨z, hd, xs', rel, o, es, ep, ho, hx, hdat, hes, his, hn⟩ := dt_of I.hok ha
  have l1 : (zs.map fun z => (z.1.map (Sum.inl : Int → Key), V.int z.2)).length = xs'.length := Paired.length rel
  rw [List.length_map] at l1
  have l2 : es.size = xs'.length := size_of_entries hes
  refine DT.sortedI (es := es) (ep := ep) (I.ok.hd hcalm) view ⟨o, ho, hx, hdat⟩ (by rw [sizeLine_eq]; omega) fun h' tk as hk hlt hl hG => ?_
  have lak : as.length = zs.length := by omega
  have nd : as.Nodup := List.Pairwise.imp (fun h => Nat.ne_of_lt h) hG.rise
  have pr : ∀ (j : Nat) (b : Addr), as[j]? = some b → ∃ (e : List Int × Int) (kq : Addr) (t : Tok), zs[j]? = some e ∧ H kq = some (.tup (e.1.map V.int)) ∧ h'.get? b = some { cls := .type "tuple", data := .seq #[Value.ref kq, Value.int e.2 t] } := by
    intro j b hj
    obtain ⟨en, he, hg⟩ := hG.pairs j b hj
    rw [entry_at hes j] at he
    obtain ⟨x, hxj, een⟩ := Option.map_eq_some_iff.mp he
    obtain ⟨e0, he0, r1, r2, r3⟩ := DX.pget rel hxj
    rw [List.getElem?_map] at he0
    obtain ⟨e, hkj, ee⟩ := Option.map_eq_some_iff.mp he0
    rw [← ee] at r2 r3
    obtain ⟨t, r3'⟩ := (show RelV (V.int e.2) x.2.2 from r3)
    refine ⟨e, x.2.1, t, hkj, by rw [← kV_ints]; exact r2, ?_⟩
    rw [hg, ← een, ← r3']
    rfl
  have hb1 : (zs.zip as).map (·.1) = zs := List.map_fst_zip (by omega)
  have hb2 : (zs.zip as).map (·.2) = as := List.map_snd_zip (by omega)
  have hbl : (zs.zip as).length = zs.length := by rw [List.length_zip]; omega
  have er0 : (as.map Value.ref) = (zs.zip as).map fun b => Value.ref b.2 := by
    conv =>
      lhs
      rw [← hb2, List.map_map]
    rfl
  rw [er0]
  refine wpAny_mono (sort_tail (s := s) (bs := zs.zip as) (enc := fun b => encP b.1) (ad := fun b => b.2) (h' := h') (tk := tk) (Q := fun s' => EP X pins σ Q (.ref h'.objs.size) s') (fun b hb => ?_) (PySem.W.AllAlike.of fun b b' => alike_P b.1 b'.1) (.inr (.inl fun d hd => ?_)) (by rw [hbl, sizeLine_eq]; omega) (fun b _ => by rw [depth_P]; show X.A.units + 1 + 1 + 2 < cLine; omega) fun h2 c k2 g2 => ?_) (fun _ s' x => x) fun _ _ e => e
  · obtain ⟨j, hj⟩ := List.mem_iff_getElem?.mp hb
    obtain ⟨e1, e2⟩ := List.getElem?_zip_eq_some.mp hj
    obtain ⟨e, kq, t, f1, f2, f3⟩ := pr j b.2 e2
    rw [f1] at e1
    cases e1
    obtain ⟨as1, rr⟩ := Dp.reads I (.tuple (b.1.1.map .int)) (.ref kq) (.ref kq) (.tup (.inl (.inl f2)) (dpAll_ints b.1.1)) rfl
    exact ⟨_, Reads.tuple f3 rfl rfl (ReadsAll.cons (PyProof.Rows.Reads.keeps hk rr) (ReadsAll.cons (Reads.int _ t) ReadsAll.nil))⟩
  · obtain ⟨b, _, rfl⟩ := List.mem_map.mp hd
    exact ⟨_, _, rfl⟩
  · have kS : ∀ b o, s.heap.get? b = some o → h2.get? b = some o := fun b o e => k2 b o (hk b o e)
    have I1 : Inv X pins σ H { s with heap := h2, toks := tk } := I.kept (t' := tk) kS
    have hn0 : H h'.objs.size = none := I.hok.fresh (Nat.le_of_lt hlt)
    have hlen : ((zs.zip as).mergeSort (PySem.W.dataLe false fun b => encP b.1)).length = zs.length := by rw [List.length_mergeSort, hbl]
    have I2 : Inv X pins σ (upd H h'.objs.size (.lst (((zs.zip as).mergeSort (PySem.W.dataLe false fun b => encP b.1)).map fun y => V.ref y.2))) { s with heap := h2, toks := tk } :=
      I1.take (h' := h2) (t' := tk) (fun b ob _ e => e) (I.fpOk (Nat.le_of_lt hlt) hn0) ⟨by rw [List.length_map, hlen, sizeLine_eq]; omega, _, c, vals_refsOf _, g2⟩
    obtain ⟨H2, I3, g, qt⟩ := DX.takeT (P := fun b vs => ∃ (j : Nat) (e : List Int × Int) (kq : Addr), as[j]? = some b ∧ zs[j]? = some e ∧ vs = [.ref kq, .int e.2] ∧ H kq = some (.tup (e.1.map V.int))) I as _ I2 nd fun b hb => by
      obtain ⟨j, hj⟩ := List.mem_iff_getElem?.mp hb
      obtain ⟨e, kq, t, he, hkq, hg⟩ := pr j b hj
      have hbl : s.heap.objs.size ≤ b := Nat.le_of_lt (hG.above b hb)
      refine ⟨hbl, ?_, [.ref kq, .int e.2], ⟨j, e, kq, hj, he, rfl, hkq⟩, fun H3 => ⟨(by rw [sizeLine_eq]; show 2 ≤ 16777216; omega), [Value.ref kq, Value.int e.2 t], .cons rfl (.cons ⟨t, rfl⟩ .nil), ⟨_, k2 _ _ hg, rfl, 0, rfl⟩⟩⟩
      rw [upd_ne (Nat.ne_of_lt (Heap.lt_size hg))]
      exact I.hok.fresh hbl
    have gr : ∀ b o, H b = some o → H2 b = some o := fun b o e => g b o (by rw [upd_ne (ne_of_none e hn0)]; exact e)
    refine ⟨.ref h'.objs.size, H2, I3, rfl, q H2 h'.objs.size ((zs.zip as).mergeSort (PySem.W.dataLe false fun b => encP b.1)) gr hn0 ?_ (g _ _ upd_same) fun y hy => ?_⟩
    · exact (List.map_mergeSort (r := PySem.W.dataLe false fun b : (List Int × Int) × Addr => encP b.1) (s := leP) (f := fun x : (List Int × Int) × Addr => x.1) (fun a _ b _ => rfl)).trans (by rw [hb1])
    · have hy' := (List.mergeSort_perm _ _).mem_iff.mp hy
      obtain ⟨i, hi⟩ := List.mem_iff_getElem?.mp hy'
      obtain ⟨i1, i2⟩ := List.getElem?_zip_eq_some.mp hi
      obtain ⟨vs, ⟨j, e, kq, j1, j2, ev, hkq⟩, hH⟩ := qt y.2 (List.mem_of_getElem? i2)
      have eij : i = j := (List.getElem?_inj (List.getElem?_eq_some_iff.mp i2).1 nd).mp (i2.trans j1.symm)
      subst eij
      have ee : e = y.1 := Option.some.inj (j2.symm.trans i1)
      rw [ev, ee] at hH
      rw [ee] at hkq
      exact ⟨kq, hH, gr _ _ hkq⟩
end
end L2
namespace Ly
open PySem PySem.Spec PyProof.Rows L2
def intK : Key → Option Int
  | .inl i => some i
  | .inr _ => none
def intsK : List Key → Option (List Int)
  | [] => some []
  | k :: ks => (intK k).bind fun i => (intsK ks).map fun r => i :: r
def intsKs : List (List Key) → Option (List (List Int))
  | [] => some []
  | k :: ks => (intsK k).bind fun i => (intsKs ks).map fun r => i :: r
def pairsZ : List (List Key) → List D → Option (List (List Int × Int))
  | [], [] => some []
  | k :: ks, .int n :: ds => (intsK k).bind fun i => (pairsZ ks ds).map fun r => (i, n) :: r
  | _, _ => none
abbrev tz (z : List Int) : D := .tup (z.map .int)
abbrev tp (z : List Int × Int) : D := .tup [tz z.1, .int z.2]
theorem intsK_eq : ∀ {k : List Key} {z : List Int}, intsK k = some z → k = z.map (Sum.inl : Int → Key)
  | [], _, h => by cases h; rfl
  | k :: ks, _, h => by
    obtain ⟨i, e1, h⟩ := Option.bind_eq_some_iff.mp h
    obtain ⟨r, e2, rfl⟩ := Option.map_eq_some_iff.mp h
    cases k with
    | inl j => cases e1; rw [intsK_eq e2]; rfl
    | inr _ => cases e1
theorem intsKs_eq : ∀ {k : List (List Key)} {z : List (List Int)}, intsKs k = some z → k = z.map fun z => z.map (Sum.inl : Int → Key)
  | [], _, h => by cases h; rfl
  | k :: ks, _, h => by
    obtain ⟨i, e1, h⟩ := Option.bind_eq_some_iff.mp h
    obtain ⟨r, e2, rfl⟩ := Option.map_eq_some_iff.mp h
    rw [intsK_eq e1, intsKs_eq e2]
    rfl
theorem intsK_map : ∀ z : List Int, intsK (z.map (Sum.inl : Int → Key)) = some z
  | [] => rfl
  | x :: z => by
    show (intK (.inl x)).bind (fun i => (intsK (z.map (Sum.inl : Int → Key))).map fun r => i :: r) = _
    rw [intsK_map z]
    rfl
theorem intsKs_map : ∀ z : List (List Int), intsKs (z.map fun z => z.map (Sum.inl : Int → Key)) = some z
  | [] => rfl
  | x :: z => by
    show (intsK (x.map (Sum.inl : Int → Key))).bind (fun i => (intsKs (z.map fun z => z.map (Sum.inl : Int → Key))).map fun r => i :: r) = _
    rw [intsK_map x, intsKs_map z]
    rfl
theorem pairsZ_map : ∀ z : List (List Int × Int), pairsZ (z.map fun z => z.1.map (Sum.inl : Int → Key)) (z.map fun z => .int z.2) = some z
  | [] => rfl
  | x :: z => by
    show (intsK (x.1.map (Sum.inl : Int → Key))).bind (fun i => (pairsZ (z.map fun z => z.1.map (Sum.inl : Int → Key)) (z.map fun z => .int z.2)).map fun r => (i, x.2) :: r) = _
    rw [intsK_map x.1, pairsZ_map z]
    rfl
theorem keysT_tz : ∀ z : List Int, keysT (z.map D.int) = some (z.map (Sum.inl : Int → Key))
  | [] => rfl
  | x :: z => by
    show (keyOf (.int x)).bind (fun k => (keysT (z.map D.int)).map fun ks => k :: ks) = _
    rw [keysT_tz z]
    rfl
section
variable {K : PySem.W.Frag} {L : Wd} {H : Hp} {M : Mem}
theorem pairsZ_ok : ∀ {ks : List (List Key)} {ds : List D} {vs : List V} {zs : List (List Int × Int)}, IsL K L H ds vs → pairsZ ks ds = some zs → ks.zip vs = zs.map fun z => (z.1.map (Sum.inl : Int → Key), V.int z.2)
  | [], [], _, _, .nil, h => by cases h; rfl
  | [], _ :: _, _, _, _, h => by cases h
  | _ :: _, [], _, _, _, h => by cases h
  | k :: ks, d :: ds, _, _, .cons a b, h => by
    cases d with
    | int n =>
      obtain ⟨i, e1, h⟩ := Option.bind_eq_some_iff.mp h
      obtain ⟨r, e2, rfl⟩ := Option.map_eq_some_iff.mp h
      cases a
      rw [List.zip_cons_cons, pairsZ_ok b e2, intsK_eq e1]
      rfl
    | _ => cases h
theorem isL_mapOf {α : Type} {f : α → D} {g : α → V} : ∀ {ys : List α}, (∀ y ∈ ys, Is K L H (f y) (g y)) → IsL K L H (ys.map f) (ys.map g)
  | [], _ => .nil
  | y :: ys, h => .cons (h y (List.mem_cons_self ..)) (isL_mapOf fun z hz => h z (List.mem_cons_of_mem _ hz))
theorem isL_intsOf : ∀ z : List Int, IsL K L H (z.map D.int) (z.map V.int)
  | [] => .nil
  | x :: z => .cons (.int x) (isL_intsOf z)
theorem is_tz (m : MemIs K L H M) {z : List Int} {b : Addr} (h : H b = some (.tup (z.map V.int))) : Is K L H (tz z) (.ref b) := .tup h (m.outT h) (isL_intsOf z)
end
def fSortT : MF := fun ds M => match ds with
  | [d] => (match dctOf d M with
    | some (ks, _) => (match intsKs ks with
      | some zs => if zs.length ≤ 1 ∨ ∀ z ∈ zs, z ≠ [] then .ok (.lst ((zs.mergeSort leZ).map tz)) M else .bad
      | none => .bad)
    | none => .bad)
  | _ => .bad
theorem rs_sortT {K : PySem.W.Frag} : RSC K (fun xs H Q => ∃ (a : Addr) (kvs : List (List Key × V)) (zs : List (List Int)), xs = [.ref a] ∧ H a = some (.dT kvs) ∧ kvs.map (·.1) = zs.map (fun z => z.map (Sum.inl : Int → Key)) ∧ (zs.length ≤ 1 ∨ ∀ z ∈ zs, z ≠ []) ∧
    ∀ (ys : List (List Int × Addr)) (l : Addr), ys.map (·.1) = zs.mergeSort leZ → (∀ y ∈ ys, H y.2 = some (.tup (y.1.map V.int))) → H l = none → Q (.ref l) (upd H l (.lst (ys.map fun y => V.ref y.2)))) fSortT := by
  intro E L H M ds xs Q m rl h
  unfold fSortT at h
  split at h
  · obtain ⟨v, rfl, r⟩ := one_inv rl
    split at h
    · rename_i ks es hd
      split at h
      · rename_i zs hz
        split at h
        · rename_i hc
          obtain ⟨n, a, vs, rfl, rfl, hn, hx, q, hl, rr⟩ := dctOf_ok m r hd
          refine ⟨a, _, zs, rfl, q, ?_, hc, fun ys l hy hk hl' => ?_⟩
          · rw [List.map_fst_zip (by rw [hl, rr.length]; exact Nat.le_refl _)]
            exact intsKs_eq hz
          · have st := Step.new (o := .lst (ys.map fun y => V.ref y.2)) m hl'
            refine h L _ _ st.1 (m.new hl') (.lst upd_same st.2 ?_)
            rw [← hy, List.map_map]
            refine isL_mapOf fun y hy' => ?_
            exact (is_tz m (hk y hy')).step st.1
        · exact h.elim
      · exact h.elim
    · exact h.elim
  · exact h.elim
def mSortIt (mo : ME) : ME := fun env M => (mo env M).bind fun d M1 => match dctOf d M1 with
  | some (ks, ds) => (match pairsZ ks ds with
    | some zs => if zs.length ≤ 100000 then .ok (.lst ((zs.mergeSort leP).map tp)) M1 else .bad
    | none => .bad)
  | none => .bad
def tupV : D → Option (List D)
  | .tup ds => some ds
  | .ftu ds => some ds
  | _ => none
theorem tupV_pd {d : D} {ds : List D} {xs : List Int} (h : tupV d = some ds) (h1 : intsOf ds = some xs) : pdOf d = some (intP xs) := by
  cases d <;> first | (cases (show (none : Option (List D)) = some _ from h)) | skip
  all_goals
    cases h
    unfold pdOf
    rw [pdAll_intsP h1]
    rfl
def rLtD (K : PySem.W.Frag) : R2 := fun x y H Q => ∃ d e, Dp K H x d ∧ Dp K H y e ∧ PySem.W.alike d e = true ∧ d ≠ .none ∧ d.depth ≤ 60 ∧ Q (.bl (PySem.W.dataLt d e)) H
theorem op_ltD {X : Cx} (hu : X.A.units + 64 < cLine) : OpR X (compareOp .Lt) (rLtD X.K) := by
  intro pins s σ H x y v u Q I rx ry h
  obtain ⟨d, e, hd, he, al, nn, dp, q⟩ := h
  obtain ⟨as, r1⟩ := Dp.reads I d x v hd rx
  obtain ⟨bs, r2⟩ := Dp.reads I e y u he ry
  exact PySem.W.lt_data r1 r2 al nn (by have := Nat.min_le_left d.depth e.depth; omega) ⟨.bl _, H, I, rfl, q⟩
def ltTup (d e : D) (M : Mem) : Res D := match tupV d, tupV e with
  | some ds, some es => (match intsOf ds, intsOf es with
    | some xs, some ys => .ok (.bl (ltInts xs ys)) M
    | _, _ => .bad)
  | _, _ => .bad
def opLtT (d e : D) (M : Mem) : Res D := match d, e with
  | .int i, .int j => .ok (.bl (decide (i < j))) M
  | d, e => ltTup d e M
theorem rs_ltT {K : PySem.W.Frag} : RS2 K (fun x y H Q => (rI0 fun i j => .bl (decide (i < j))) x y H Q ∨ rLtD K x y H Q) opLtT := by
  intro E L H M d e x y Q m rd re h
  unfold opLtT at h
  split at h
  · cases rd; cases re
    exact .inl ⟨_, _, rfl, rfl, h.end_ m (.bl _)⟩
  unfold ltTup at h
  split at h
  · rename_i ds es h1 h2
    split at h
    · rename_i xs ys h3 h4
      refine .inr ⟨_, _, pdOf_ok rd (tupV_pd h1 h3), pdOf_ok re (tupV_pd h2 h4), ?_, ?_, ?_, h.end_ m (.bl _)⟩
      · unfold intP PySem.W.alike
        exact alike_ints xs ys
      · exact fun z => by cases z
      · show PyData.depthAll (xs.map .int) + 1 ≤ 60
        rw [depth_intsP]
        decide
    · exact h.elim
  · exact h.elim
section
variable {G : Gd} {k : Nat} {E : XK} {N : List Str} {sc : Scope} {X : Cx} {a b e o : Expr} {es : List Expr} {ma mb mo : ME} {mr : MA} {pos p apos cpos : Pos}
theorem ce_sortT (c : Cq G k E N sc X) (hm : G.mg "sorted" = none) (ha : PA X (e :: es) (tAD G.K E mr)) (hg : sc.names.lookup ("sorted" : Str) = some NameKind.globalImplicit := by rfl)
    (he : starEach (e :: es) X.env = (false, eval e X.env) :: starEach es X.env := by rfl) (hpl : (backTo pos (starEach es X.env)).any (·.1) = false := by rfl) :
    PE X (.Call (.Name "sorted" p) (e :: es) [] pos) (tD G.K E (mCB fSortT mr)) := by
  obtain rfl := c.g
  exact ce_callB (call_sortedT c.calm (hu64 c.room)) rs_sortT c hg hm (by decide +kernel) ha (by decide +kernel) (by decide +kernel) he hpl
theorem ce_sortIt (c : Cq G k E N sc X) (hm : G.mg "sorted" = none) (ho : PE X o (tD G.K E mo)) (hg : sc.names.lookup ("sorted" : Str) = some NameKind.globalImplicit := by rfl)
    (hbase : attributeBase o "items" X.env (eval o X.env) = eval o X.env := by rfl) (hline : (apos.endLine == cpos.line) = true := by rfl)
    (he : starEach [.Call (.Attribute o "items" apos) [] [] cpos] X.env = (false, eval (.Call (.Attribute o "items" apos) [] [] cpos) X.env) :: starEach [] X.env := by rfl) (hpl : (backTo pos (starEach [] X.env)).any (·.1) = false := by rfl) :
    PE X (.Call (.Name "sorted" p) [.Call (.Attribute o "items" apos) [] [] cpos] [] pos) (tD G.K E (mSortIt mo)) := by
  obtain rfl := c.g
  refine (pe_callB (call_sortedP c.calm (hu64 c.room)) (show X.env.scope.names.lookup ("sorted" : Str) = _ by rw [c.scq]; exact hg) hm (by decide +kernel) (pa_cons (pe_bm0 PySem.F.plainAttrs_dict PySem.F.slot_dict_items PySem.F.type_dict_items DX.mt_itemsT ho hbase hline) pa_nil he) (by decide +kernel) (by decide +kernel) he hpl).imp fun σ H Q ⟨env, L, M, he, hm, h⟩ => ?_
  refine ⟨env, L, M, he, hm, Fin.imp (Fin.bind h) fun x H1 ⟨d, M1, L1, s1, m1, r1, h1⟩ => ?_⟩
  split at h1
  · rename_i ks ds hd
    split at h1
    · rename_i zs hz
      split at h1
      · rename_i hn
        obtain ⟨n, a, vs, rfl, rfl, hn', hx, q, hl, rr⟩ := dctOf_ok m1 r1 hd
        have ez := pairsZ_ok rr hz
        rw [ez] at q
        refine ⟨.inr (.inr (.inl ⟨rfl, .inr ⟨_, q⟩⟩)), a, _, rfl, rfl, q, fun p hp => ?_⟩
        refine ⟨p, a, zs, rfl, upd_same, by rw [upd_ne (ne_of_none q hp)]; exact q, hn, fun H' l ys k1 hl hy hL hprs => ?_⟩
        obtain ⟨st, m'⟩ := mem_sub m1 (fun b o e => k1 b o (by rw [upd_ne (ne_of_none e hp)]; exact e))
        have hl1 : H1 l = none := by
          by_cases hlp : l = p
          · rw [hlp]
            exact hp
          · rw [upd_ne hlp] at hl
            exact hl
        refine h1 L1 H' _ st m' (.lst hL (m1.out hl1) ?_)
        rw [← hy, List.map_map]
        refine isL_mapOf fun y hy' => ?_
        obtain ⟨q1, e1, e2⟩ := hprs y hy'
        exact .tup e1 (m'.outT e1) (.cons (is_tz m' e2) (.cons (.int _) .nil))
      · exact h1.elim
    · exact h1.elim
  · exact h1.elim
theorem ce_ltT (c : Cq G k E N sc X) (ha : PE X a (tD G.K E ma)) (hb : PE X b (tD G.K E mb))  : PE X (.Compare a [.Lt] [b] pos) (tD G.K E (mBin opLtT ma mb)) := by
  obtain rfl := c.g
  exact ce_cmp (op_lt.or (op_ltD (hu64 c.room))) rs_ltT ha hb (nomark b)
theorem ct_ltT (c : Cq G k E N sc X) (ha : PE X a (tD G.K E ma)) (hb : PE X b (tD G.K E mb))  : PT X (.Compare a [.Lt] [b] pos) (tTD G.K E (mTest (mBin opLtT ma mb))) := by
  obtain rfl := c.g
  exact ct_cmp (op_lt.or (op_ltD (hu64 c.room))) rs_ltT ha hb (nomark b)
end
section
variable {env : Env} {M : Mem} {Q : D → Mem → Prop} {d e : D} {mo : ME} {zs : List (List Int)} {ks : List (List Key)} {ds es : List D} {xs ys : List Int}
theorem go_sortT (h : dctOf d M = some (zs.map (fun z => z.map (Sum.inl : Int → Key)), ds)) : Go (fSortT [d] M) Q = ((zs.length ≤ 1 ∨ ∀ z ∈ zs, z ≠ []) ∧ Q (.lst ((zs.mergeSort leZ).map tz)) M) := by
  have e : fSortT [d] M = if zs.length ≤ 1 ∨ ∀ z ∈ zs, z ≠ [] then .ok (.lst ((zs.mergeSort leZ).map tz)) M else .bad := by
    show (match dctOf d M with
      | some (ks, _) => (match intsKs ks with
        | some zs => if zs.length ≤ 1 ∨ ∀ z ∈ zs, z ≠ [] then Res.ok (D.lst ((zs.mergeSort leZ).map tz)) M else .bad
        | none => .bad)
      | none => .bad) = _
    rw [h]
    show (match intsKs (zs.map fun z => z.map (Sum.inl : Int → Key)) with
        | some zs => if zs.length ≤ 1 ∨ ∀ z ∈ zs, z ≠ [] then Res.ok (D.lst ((zs.mergeSort leZ).map tz)) M else .bad
        | none => .bad) = _
    rw [intsKs_map]
  rw [e]
  exact go_iteC
theorem go_sortIt {ps : List (List Int × Int)} : Go (mSortIt mo env M) Q = Go (mo env M) fun d M1 => Go (match dctOf d M1 with
  | some (ks, ds) => (match pairsZ ks ds with
    | some zs => if zs.length ≤ 100000 then Res.ok (D.lst ((zs.mergeSort leP).map tp)) M1 else .bad
    | none => .bad)
  | none => .bad) Q := go_bind
theorem go_sortIt' {ps : List (List Int × Int)} {M1 : Mem} (h : dctOf d M1 = some (ps.map (fun z => z.1.map (Sum.inl : Int → Key)), ps.map fun z => .int z.2)) : Go (match dctOf d M1 with
  | some (ks, ds) => (match pairsZ ks ds with
    | some zs => if zs.length ≤ 100000 then Res.ok (D.lst ((zs.mergeSort leP).map tp)) M1 else .bad
    | none => .bad)
  | none => .bad) Q = (ps.length ≤ 100000 ∧ Q (.lst ((ps.mergeSort leP).map tp)) M1) := by
  rw [h]
  show Go (match pairsZ (ps.map fun z => z.1.map (Sum.inl : Int → Key)) (ps.map fun z => .int z.2) with
    | some zs => if zs.length ≤ 100000 then Res.ok (D.lst ((zs.mergeSort leP).map tp)) M1 else .bad
    | none => .bad) Q = _
  rw [pairsZ_map]
  exact go_iteC
theorem go_ltTI {i j : Int} : Go (opLtT (.int i) (.int j) M) Q = Q (.bl (decide (i < j))) M := id rfl
theorem go_ltT (h1 : tupV d = some ds) (h2 : tupV e = some es) (h3 : intsOf ds = some xs) (h4 : intsOf es = some ys) : Go (opLtT d e M) Q = Q (.bl (ltInts xs ys)) M := by
  have e : opLtT d e M = .ok (.bl (ltInts xs ys)) M := by
    have e0 : opLtT d e M = ltTup d e M := by
      cases d <;> first | rfl | (cases (show (none : Option (List D)) = some _ from h1))
    rw [e0]
    unfold ltTup
    rw [h1, h2]
    show (match intsOf ds, intsOf es with
      | some xs, some ys => Res.ok (D.bl (ltInts xs ys)) M
      | _, _ => .bad) = _
    rw [h3, h4]
  rw [e]
  rfl
end
end Ly
namespace Ly
open PySem PySem.Spec PyProof.Rows L2
theorem op_neL0 {X : Cx} (hu : X.A.units < cLine) : OpR X (compareOp .NotEq) (fun x y H Q => ∃ a b xs, x = .ref a ∧ y = .ref b ∧ SqL X.K H a xs ∧ SqL X.K H b [] ∧ Q (.bl (!xs.isEmpty)) H) := by
  intro pins s σ H x y v u Q I rx ry h
  obtain ⟨a, b, xs, rfl, rfl, ha, hb, q⟩ := h
  cases (show v = Value.ref a from rx)
  cases (show u = Value.ref b from ry)
  obtain ⟨us, r1, p1, _⟩ := I.list ha
  obtain ⟨ws, r2, p2, _⟩ := I.list hb
  cases r2
  have hl : us.length = xs.length := r1.length.symm
  cases xs with
  | nil =>
    cases us with
    | nil => exact SeqAt.RcNeAt.lists (e := fun _ => true) p1.isList p2.isList rfl hu (fun j h1 h2 => absurd h2 (by simp)) X.prog X.w _ _ ⟨.bl false, H, I, rfl, q⟩
    | cons _ _ => cases hl
  | cons x xs =>
    cases us with
    | nil => cases hl
    | cons u us => exact SeqAt.RcNeAt.lists_lengths p1.isList p2.isList rfl hu X.prog X.w _ _ ⟨.bl true, H, I, rfl, q⟩
def opNeEL (d e : D) (M : Mem) : Res D := match d, e with
  | .lst ds, .lst [] => .ok (.bl (!ds.isEmpty)) M
  | _, _ => .bad
theorem rs_neEL {K : PySem.W.Frag} : RS2 K (fun x y H Q => ∃ a b xs, x = .ref a ∧ y = .ref b ∧ SqL K H a xs ∧ SqL K H b [] ∧ Q (.bl (!xs.isEmpty)) H) opNeEL := by
  intro E L H M d e x y Q m rd re h
  unfold opNeEL at h
  split at h
  · rename_i ds
    obtain ⟨a, vs, rfl, q1, _, r1⟩ := rd.lst_inv
    obtain ⟨b, ws, rfl, q2, _, r2⟩ := re.lst_inv
    cases r2
    refine ⟨a, b, vs, rfl, rfl, .inl (.inl q1), .inl (.inl q2), ?_⟩
    have e : vs.isEmpty = ds.isEmpty := by
      cases r1 <;> rfl
    rw [e]
    exact h.end_ m (.bl _)
  · exact h.elim
section
variable {G : Gd} {k : Nat} {E : XK} {N : List Str} {sc : Scope} {X : Cx} {a b : Expr} {ma mb : ME} {pos : Pos}
theorem ct_neEL (c : Cq G k E N sc X) (ha : PE X a (tD G.K E ma)) (hb : PE X b (tD G.K E mb)) : PT X (.Compare a [.NotEq] [b] pos) (tTD G.K E (mTest (mBin opNeEL ma mb))) := by
  obtain rfl := c.g
  exact ct_cmp (op_neL0 (by have := hu_of c.room; omega)) rs_neEL ha hb (nomark b)
end
theorem go_neEL {M : Mem} {ds : List D} {Q : D → Mem → Prop} : Go (opNeEL (.lst ds) (.lst []) M) Q = Q (.bl (!ds.isEmpty)) M := id rfl
end Ly
namespace Ly
open PySem PySem.Spec PyProof.Rows L2
open Classical in
noncomputable def opMulV (d e : D) (M : Mem) : Res D := match d, e with
  | .tup ds, .int k => if ds ≠ [] ∧ 2 ≤ k ∧ k ≤ 1000 ∧ ds.length ≤ 1000 then .ok (.tup (List.replicate k.toNat ds).flatten) M else opMulU (.tup ds) (.int k) M
  | d, e => opMulU d e M
theorem isL_rep {K : PySem.W.Frag} {L : Wd} {H : Hp} {ds : List D} {vs : List V} (h : IsL K L H ds vs) : ∀ n : Nat, IsL K L H (List.replicate n ds).flatten (List.replicate n vs).flatten
  | 0 => .nil
  | n + 1 => by
    rw [List.replicate_succ, List.replicate_succ, List.flatten_cons, List.flatten_cons]
    exact h.append (isL_rep h n)
theorem rs_mulV {K : PySem.W.Frag} {r0 : R2} (h0 : RS2 K r0 opMulU) : RS2 K (fun x y H Q => r0 x y H Q ∨ rRepT K x y H Q) opMulV := by
  intro E L H M d e x y Q m rd re h
  unfold opMulV at h
  split at h
  · rename_i ds k
    split at h
    · rename_i hc
      have re' := re
      cases re'
      obtain ⟨a, vs, rfl, q, rl⟩ := rd.tup_inv
      have hl := rl.length
      refine .inr ⟨a, k, vs, rfl, rfl, q, ?_, hc.2.1, hc.2.2.1, by rw [← hl]; exact hc.2.2.2, new_tup m (isL_rep rl _) h⟩
      intro z
      rw [z] at hl
      exact hc.1 (List.length_eq_zero_iff.mp hl)
    · exact .inl (h0 E L H M _ _ _ _ Q m rd re h)
  · exact .inl (h0 E L H M _ _ _ _ Q m rd re h)
section
variable {G : Gd} {k : Nat} {E : XK} {N : List Str} {sc : Scope} {X : Cx} {a b : Expr} {ma mb : ME} {pos : Pos}
theorem ce_mulV (c : Cq G k E N sc X) (ha : PE X a (tD G.K E ma)) (hb : PE X b (tD G.K E mb)) : PE X (.BinOp a .Mult b pos) (tD G.K E (mBin opMulV ma mb)) := by
  obtain rfl := c.g
  exact ce_op (((op_mulA.or op_rep01).or op_repS).or op_repT) (rs_mulV rs_mulU) ha hb
end
theorem go_mulVT {M : Mem} {ds : List D} {k : Int} {Q : D → Mem → Prop} (h0 : ds ≠ []) (h1 : 2 ≤ k) (h2 : k ≤ 1000) (h3 : ds.length ≤ 1000) : Go (opMulV (.tup ds) (.int k) M) Q = Q (.tup (List.replicate k.toNat ds).flatten) M := by
  have e : opMulV (.tup ds) (.int k) M = .ok (.tup (List.replicate k.toNat ds).flatten) M := if_pos ⟨h0, h1, h2, h3⟩
  rw [e]
  rfl
theorem go_mulV0 {M : Mem} {ds : List D} {Q : D → Mem → Prop} (h0 : ds ≠ []) : Go (opMulV (.tup ds) (.int 0) M) Q = Q (.tup []) M := by
  have e : opMulV (.tup ds) (.int 0) M = opMulU (.tup ds) (.int 0) M := if_neg fun h => by have := h.2.1; omega
  have e2 : opMulU (.tup ds) (.int 0) M = .ok (.tup []) M := by
    show opMulT (.tup ds) (.int 0) M = _
    show (if (0 : Int) = 1 then Res.ok (D.tup ds) M else if (0 : Int) = 0 ∧ ds.length ≠ 0 then Res.ok (D.tup []) M else Res.bad) = _
    rw [if_neg (by decide), if_pos ⟨rfl, fun z => h0 (List.length_eq_zero_iff.mp z)⟩]
  rw [e, e2]
  rfl
theorem go_mulV1 {M : Mem} {ds : List D} {Q : D → Mem → Prop} : Go (opMulV (.tup ds) (.int 1) M) Q = Q (.tup ds) M := by
  have e : opMulV (.tup ds) (.int 1) M = opMulU (.tup ds) (.int 1) M := if_neg fun h => by have := h.2.1; omega
  have e2 : opMulU (.tup ds) (.int 1) M = .ok (.tup ds) M := by
    show opMulT (.tup ds) (.int 1) M = _
    show (if (1 : Int) = 1 then Res.ok (D.tup ds) M else if (1 : Int) = 0 ∧ ds.length ≠ 0 then Res.ok (D.tup []) M else Res.bad) = _
    rw [if_pos rfl]
  rw [e, e2]
  rfl
end Ly
namespace Ly
open PySem PySem.Spec PyProof.Rows L2
theorem tupV_inv {K : PySem.W.Frag} {L : Wd} {H : Hp} {d : D} {v : V} {ds : List D} (r : Is K L H d v) (h : tupV d = some ds) : ∃ a vs, v = .ref a ∧ SqT K H a vs ∧ IsL K L H ds vs := by
  cases d <;> first | (cases (show (none : Option (List D)) = some _ from h)) | skip
  · cases h
    exact r.tup_inv
  · cases h
    exact r.ftu_inv
def bothT (d e : D) : Option (List D × List D) := match tupV d, tupV e with
  | some ds, some es => some (ds, es)
  | _, _ => none
def isFt : D → Bool
  | .ftu _ => true
  | _ => false
open Classical in
noncomputable def opAddF (d e : D) (M : Mem) : Res D := if isFt d = true ∨ isFt e = true then (match bothT d e with
  | some (ds, es) => if ds ≠ [] ∧ es ≠ [] ∧ szOk (ds.length + es.length) = true then .ok (.tup (ds ++ es)) M else .bad
  | none => .bad) else opAddB d e M
theorem rs_addF {K : PySem.W.Frag} {r0 : R2} (h0 : RS2 K r0 opAddB) : RS2 K (fun x y H Q => r0 x y H Q ∨ rCatA K x y H Q) opAddF := by
  intro E L H M d e x y Q m rd re h
  unfold opAddF at h
  split at h
  · split at h
    · rename_i ds es hb
      split at h
      · rename_i hc
        obtain ⟨h1, h2⟩ : tupV d = some ds ∧ tupV e = some es := by
          unfold bothT at hb
          split at hb
          · rename_i a b ha hb'
            cases hb
            exact ⟨ha, hb'⟩
          · cases hb
        obtain ⟨a, vs, rfl, q1, r1⟩ := tupV_inv rd h1
        obtain ⟨b, ws, rfl, q2, r2⟩ := tupV_inv re h2
        refine .inr ⟨a, b, vs, ws, rfl, rfl, q1, q2, by rw [← r1.length, ← r2.length]; exact szOk.le hc.2.2, fun e1 => ?_, fun _ e2 => ?_, fun _ _ => new_tup m (r1.append r2) h⟩
        · subst e1
          cases r1
          exact absurd rfl hc.1
        · subst e2
          cases r2
          exact absurd rfl hc.2.1
      · exact h.elim
    · exact h.elim
  · exact .inl (h0 E L H M _ _ _ _ Q m rd re h)
section
variable {G : Gd} {k : Nat} {E : XK} {N : List Str} {sc : Scope} {X : Cx} {a b : Expr} {ma mb : ME} {pos : Pos}
theorem ce_addF (c : Cq G k E N sc X) (ha : PE X a (tD G.K E ma)) (hb : PE X b (tD G.K E mb)) : PE X (.BinOp a .Add b pos) (tD G.K E (mBin opAddF ma mb)) := by
  obtain rfl := c.g
  exact ce_op ((op_addA.or op_addBI).or op_catA) (rs_addF rs_addB) ha hb
end
theorem go_addFt {M : Mem} {d e : D} {ds es : List D} {Q : D → Mem → Prop} (h1 : tupV d = some ds) (h2 : tupV e = some es) (n1 : ds ≠ []) (n2 : es ≠ []) (hz : ds.length + es.length ≤ 100000) (q : Q (.tup (ds ++ es)) M) : Go (opAddF d e M) Q := by
  unfold opAddF
  by_cases hf : isFt d = true ∨ isFt e = true
  · rw [if_pos hf]
    have hb : bothT d e = some (ds, es) := by
      unfold bothT
      rw [h1, h2]
    rw [hb]
    dsimp only
    rw [if_pos ⟨n1, n2, decide_eq_true hz⟩]
    exact q
  · rw [if_neg hf]
    cases d <;> first | (cases (show (none : Option (List D)) = some _ from h1)) | skip
    · cases e <;> first | (cases (show (none : Option (List D)) = some _ from h2)) | skip
      · cases h1
        cases h2
        rw [go_addBT, go_addT]
        exact ⟨decide_eq_true hz, q⟩
      · exact absurd (.inr rfl) hf
    · exact absurd (.inl rfl) hf
theorem go_addFT {M : Mem} {ds es : List D} {Q : D → Mem → Prop} (hz : ds.length + es.length ≤ 100000) (q : Q (.tup (ds ++ es)) M) : Go (opAddF (.tup ds) (.tup es) M) Q := by
  unfold opAddF
  rw [if_neg (by simp [isFt]), go_addBT, go_addT]
  exact ⟨decide_eq_true hz, q⟩
theorem go_addFI {M : Mem} {i j : Int} {Q : D → Mem → Prop} : Go (opAddF (.int i) (.int j) M) Q = Q (.int (i + j)) M := by
  unfold opAddF
  rw [if_neg (by simp [isFt])]
  rfl
theorem go_addFB {M : Mem} {b : Bool} {j : Int} {Q : D → Mem → Prop} : Go (opAddF (.bl b) (.int j) M) Q = Q (.int (bI b + j)) M := by
  unfold opAddF
  rw [if_neg (by simp [isFt])]
  rfl
end Ly
namespace K28
open PySem PySem.Spec PyProof.Rows L2 Ly
def top (i : Nat) : Stmt := PySem.Challenge.pw_pointhouse_k28_sums.main.body.getD i (.Pass ⟨0, 0, 0, 0⟩)
noncomputable def m_is_whole : MS := (mRet (mAndV (mCB fIsi (mCons (mVar 0) (mCons (mC (.ty "int")) mNil))) (mNotV (mCB fIsi (mCons (mVar 0) (mCons (mC (.ty "bool")) mNil))))))
noncomputable def f_is_whole : MF := callD 1 m_is_whole
theorem sc_is_whole : FnScope ["thing"] ["thing"] (defScope (top 1)) := ⟨rfl, rfl, rfl, by decide +kernel, rfl, by decide +kernel, by decide +kernel⟩
theorem w_is_whole {G : Gd} (b_int : G.mg "int" = none) (b_isinstance : G.mg "isinstance" = none) (b_bool : G.mg "bool" = none) (X : Cx) (E : XK) (c : Cq G 0 E ["thing"] (defScope (top 1)) X) (hf : X.fn = fun _ => true) : PSs X (defBody (top 1)) (sD G.K E m_is_whole) := by
  exact (css_one (cs_ret (ce_and (ce_isi c b_isinstance (ca_cons (ce_var (i := 0) c rfl (vis_by rfl)) (ca_cons (ce_ty c b_int rfl (by decide +kernel)) ca_nil))) (ce_one (ce_not (ce_isi c b_isinstance (ca_cons (ce_var (i := 0) c rfl (vis_by rfl)) (ca_cons (ce_ty c b_bool rfl (by decide +kernel)) ca_nil))))))))
theorem C_is_whole {G : Gd} {fd : FuncData} (b_int : G.mg "int" = none) (b_isinstance : G.mg "isinstance" = none) (b_bool : G.mg "bool" = none) (F : FunD G.K "is_whole" "is_whole" (defArgs (top 1)) (defBody (top 1)) (defScope (top 1)) [] [] (He.ga G.K "is_whole") fd) (g : G.mg "is_whole" = some (.ref (He.ga G.K "is_whole"))) : Cal G 1 "is_whole" ["thing"] f_is_whole :=
  cal_D F sc_is_whole g (fun _ _ _ _ _ _ us hl => match us, hl with | [_], _ => rfl) (w_is_whole b_int b_isinstance b_bool)
noncomputable def m_is_powers : MS := (mRet (mAndV (mCB fIsi (mCons (mVar 1) (mCons (mC (.ty "tuple")) mNil))) (mAndV (mBin opEq (mCB fLen (mCons (mVar 1) mNil)) (mVar 0)) (mCB (fBools fun bs => bs.all id) (mCons (mLc (mIter (mVar 1)) (gN 2) mYes (mAndV (mCall 1 f_is_whole (mCons (mVar 2) mNil)) (mBin opGe (mVar 2) (mC (.int 0)))) [2]) mNil)))))
noncomputable def f_is_powers : MF := callD 3 m_is_powers
theorem sc_is_powers : FnScope ["many", "thing", "one"] ["many", "thing"] (defScope (top 2)) := ⟨rfl, rfl, rfl, by decide +kernel, rfl, by decide +kernel, by decide +kernel⟩
theorem w_is_powers {G : Gd} (b_tuple : G.mg "tuple" = none) (b_isinstance : G.mg "isinstance" = none) (b_len : G.mg "len" = none) (b_all : G.mg "all" = none) (C_is_whole : Cal G 1 "is_whole" ["thing"] f_is_whole) (X : Cx) (E : XK) (c : Cq G 1 E ["many", "thing", "one"] (defScope (top 2)) X) (hf : X.fn = fun _ => true) : PSs X (defBody (top 2)) (sD G.K E m_is_powers) := by
  have hj_is_whole : 1 ≤ 1 := by decide
  exact (css_one (cs_ret (ce_and (ce_isi c b_isinstance (ca_cons (ce_var (i := 1) c rfl (vis_by rfl)) (ca_cons (ce_ty c b_tuple rfl (by decide +kernel)) ca_nil))) (ce_and (ce_eq c (ce_len c b_len (ca_cons (ce_var (i := 1) c rfl (vis_by rfl)) ca_nil)) (ce_var (i := 0) c rfl (vis_by rfl))) (ce_one (ce_all c b_all (ca_cons (ce_lc (own := [("one", 2)]) c (ci_any c (ce_var (i := 1) c rfl (vis_by rfl))) rfl rfl (fun _ cx hfcx => (cg_name (i := 2) cx rfl (loc_by rfl) (fnC hfcx (by first | exact .inr rfl | exact .inl rfl)))) (fun _ cx => cts_nil) (fun _ cx => (ce_and (ce_call C_is_whole hj_is_whole cx rfl (ca_cons (ce_var (i := 2) cx rfl (vis_by rfl)) ca_nil)) (ce_one (ce_ge cx (ce_var (i := 2) cx rfl (vis_by rfl)) ce_int)))) (by decide)) ca_nil)))))))
theorem C_is_powers {G : Gd} {fd : FuncData} (b_tuple : G.mg "tuple" = none) (b_isinstance : G.mg "isinstance" = none) (b_len : G.mg "len" = none) (b_all : G.mg "all" = none) (C_is_whole : Cal G 1 "is_whole" ["thing"] f_is_whole) (F : FunD G.K "is_powers" "is_powers" (defArgs (top 2)) (defBody (top 2)) (defScope (top 2)) [] [] (He.ga G.K "is_powers") fd) (g : G.mg "is_powers" = some (.ref (He.ga G.K "is_powers"))) : Cal G 2 "is_powers" ["many", "thing"] f_is_powers :=
  cal_D F sc_is_powers g (fun _ _ _ _ _ _ us hl => match us, hl with | [_, _], _ => rfl) (w_is_powers b_tuple b_isinstance b_len b_all C_is_whole)
noncomputable def m_is_sum : MS := (mSeq (mIfS (mOrT (mNotT (mTest (mCB fIsi (mCons (mVar 1) (mCons (mC (.ty "tuple")) mNil))))) (mNotT (mTest (mCB (fBools fun bs => bs.all id) (mCons (mLc (mIter (mVar 1)) (gN 2) mYes (mAndV (mCB fIsi (mCons (mVar 2) (mCons (mC (.ty "tuple")) mNil))) (mBin opEq (mCB fLen (mCons (mVar 2) mNil)) (mC (.int 2)))) [2]) mNil))))) (mRet (mC (.bl false))) mNext)
  (mSeq (mIfS (mNotT (mTest (mCB (fBools fun bs => bs.all id) (mCons (mLc (mIter (mVar 1)) (gT [(gN 4), (gN 5)]) mYes (mAndV (mCall 2 f_is_powers (mCons (mVar 0) (mCons (mVar 4) mNil))) (mAndV (mCall 1 f_is_whole (mCons (mVar 5) mNil)) (mBin opNe (mVar 5) (mC (.int 0))))) [4, 5]) mNil)))) (mRet (mC (.bl false))) mNext)
  (mRet (mCB (fBools fun bs => bs.all id) (mCons (mLc (mRng (zipF false) (mCons (mVar 1) (mCons (mSl (mVar 1) (mPart (mC (.int 1))) mNoPart) mNil))) (gT [(gN 2), (gN 3)]) mYes (mBin opLtT (mBin opIx (mVar 2) (mC (.int 0))) (mBin opIx (mVar 3) (mC (.int 0)))) [2, 3]) mNil)))))
noncomputable def f_is_sum : MF := callD 6 m_is_sum
theorem sc_is_sum : FnScope ["many", "thing", "one", "other", "powers", "number"] ["many", "thing"] (defScope (top 3)) := ⟨rfl, rfl, rfl, by decide +kernel, rfl, by decide +kernel, by decide +kernel⟩
theorem w_is_sum {G : Gd} (b_tuple : G.mg "tuple" = none) (b_isinstance : G.mg "isinstance" = none) (b_len : G.mg "len" = none) (b_all : G.mg "all" = none) (b_zip : G.mg "zip" = none) (C_is_powers : Cal G 2 "is_powers" ["many", "thing"] f_is_powers) (C_is_whole : Cal G 1 "is_whole" ["thing"] f_is_whole) (X : Cx) (E : XK) (c : Cq G 2 E ["many", "thing", "one", "other", "powers", "number"] (defScope (top 3)) X) (hf : X.fn = fun _ => true) : PSs X (defBody (top 3)) (sD G.K E m_is_sum) := by
  have hj_is_powers : 2 ≤ 2 := by decide
  have hj_is_whole : 1 ≤ 2 := by decide
  exact (css_cons (cs_if (cw_or (ct_not (ct_val (ce_isi c b_isinstance (ca_cons (ce_var (i := 1) c rfl (vis_by rfl)) (ca_cons (ce_ty c b_tuple rfl (by decide +kernel)) ca_nil))))) (cw_one_or (ct_not (ct_val (ce_all c b_all (ca_cons (ce_lc (own := [("one", 2)]) c (ci_any c (ce_var (i := 1) c rfl (vis_by rfl))) rfl rfl (fun _ cx hfcx => (cg_name (i := 2) cx rfl (loc_by rfl) (fnC hfcx (by first | exact .inr rfl | exact .inl rfl)))) (fun _ cx => cts_nil) (fun _ cx => (ce_and (ce_isi cx b_isinstance (ca_cons (ce_var (i := 2) cx rfl (vis_by rfl)) (ca_cons (ce_ty cx b_tuple rfl (by decide +kernel)) ca_nil))) (ce_one (ce_eq cx (ce_len cx b_len (ca_cons (ce_var (i := 2) cx rfl (vis_by rfl)) ca_nil)) ce_int)))) (by decide)) ca_nil)))))).pt (css_one (cs_ret ce_bl)) css_nil)
  (css_cons (cs_if (ct_not (ct_val (ce_all c b_all (ca_cons (ce_lc (own := [("powers", 4), ("number", 5)]) c (ci_any c (ce_var (i := 1) c rfl (vis_by rfl))) rfl rfl (fun _ cx hfcx => (cg_tup cx (cgs_cons (cg_name (i := 4) cx rfl (loc_by rfl) (fnC hfcx (by first | exact .inr rfl | exact .inl rfl))) (cgs_cons (cg_name (i := 5) cx rfl (loc_by rfl) (fnC hfcx (by first | exact .inr rfl | exact .inl rfl))) cgs_nil)))) (fun _ cx => cts_nil) (fun _ cx => (ce_and (ce_call C_is_powers hj_is_powers cx rfl (ca_cons (ce_var (i := 0) cx rfl (vis_by rfl)) (ca_cons (ce_var (i := 4) cx rfl (vis_by rfl)) ca_nil))) (ce_and (ce_call C_is_whole hj_is_whole cx rfl (ca_cons (ce_var (i := 5) cx rfl (vis_by rfl)) ca_nil)) (ce_one (ce_ne cx (ce_var (i := 5) cx rfl (vis_by rfl)) ce_int))))) (by decide)) ca_nil)))) (css_one (cs_ret ce_bl)) css_nil)
  (css_one (cs_ret (ce_all c b_all (ca_cons (ce_lc (own := [("one", 2), ("other", 3)]) c (ci_zipB c rfl b_zip (ca_cons (ce_var (i := 1) c rfl (vis_by rfl)) (ca_cons (ce_sl c (ce_var (i := 1) c rfl (vis_by rfl)) (co_some ce_int) co_none) ca_nil))) rfl rfl (fun _ cx hfcx => (cg_tup cx (cgs_cons (cg_name (i := 2) cx rfl (loc_by rfl) (fnC hfcx (by first | exact .inr rfl | exact .inl rfl))) (cgs_cons (cg_name (i := 3) cx rfl (loc_by rfl) (fnC hfcx (by first | exact .inr rfl | exact .inl rfl))) cgs_nil)))) (fun _ cx => cts_nil) (fun _ cx => (ce_ltT cx (ce_ix cx (ce_var (i := 2) cx rfl (vis_by rfl)) ce_int) (ce_ix cx (ce_var (i := 3) cx rfl (vis_by rfl)) ce_int))) (by decide)) ca_nil))))))
theorem C_is_sum {G : Gd} {fd : FuncData} (b_tuple : G.mg "tuple" = none) (b_isinstance : G.mg "isinstance" = none) (b_len : G.mg "len" = none) (b_all : G.mg "all" = none) (b_zip : G.mg "zip" = none) (C_is_powers : Cal G 2 "is_powers" ["many", "thing"] f_is_powers) (C_is_whole : Cal G 1 "is_whole" ["thing"] f_is_whole) (F : FunD G.K "is_sum" "is_sum" (defArgs (top 3)) (defBody (top 3)) (defScope (top 3)) [] [] (He.ga G.K "is_sum") fd) (g : G.mg "is_sum" = some (.ref (He.ga G.K "is_sum"))) : Cal G 3 "is_sum" ["many", "thing"] f_is_sum :=
  cal_D F sc_is_sum g (fun _ _ _ _ _ _ us hl => match us, hl with | [_, _], _ => rfl) (w_is_sum b_tuple b_isinstance b_len b_all b_zip C_is_powers C_is_whole)
noncomputable def m_put_together : MS := (mRet (mCB fTupF (mCons (mLc (mIter (mCB fSortT (mCons (mVar 0) mNil))) (gN 1) (mTest (mBin opNe (mBin opIxT (mVar 0) (mVar 1)) (mC (.int 0)))) (mTup (mCons (mVar 1) (mCons (mBin opIxT (mVar 0) (mVar 1)) mNil))) [1]) mNil)))
noncomputable def f_put_together : MF := callD 2 m_put_together
theorem sc_put_together : FnScope ["numbers", "powers"] ["numbers"] (defScope (top 4)) := ⟨rfl, rfl, rfl, by decide +kernel, rfl, by decide +kernel, by decide +kernel⟩
theorem w_put_together {G : Gd} (b_sorted : G.mg "sorted" = none) (b_tuple : G.mg "tuple" = none) (nt : NoTup G.K) (X : Cx) (E : XK) (c : Cq G 0 E ["numbers", "powers"] (defScope (top 4)) X) (hf : X.fn = fun _ => true) : PSs X (defBody (top 4)) (sD G.K E m_put_together) := by
  exact (css_one (cs_ret (ce_tupleF c b_tuple (ca_cons (ce_lc (own := [("powers", 1)]) c (ci_any c (ce_sortT c b_sorted (ca_cons (ce_var (i := 0) c rfl (vis_by rfl)) ca_nil))) rfl rfl (fun _ cx hfcx => (cg_name (i := 1) cx rfl (loc_by rfl) (fnC hfcx (by first | exact .inr rfl | exact .inl rfl)))) (fun _ cx => (cts_one (ct_ne cx (ce_ixT nt cx (ce_var (i := 0) cx rfl (vis_by rfl)) (ce_var (i := 1) cx rfl (vis_by rfl))) ce_int))) (fun _ cx => (ce_tup (ca_cons (ce_var (i := 1) cx rfl (vis_by rfl)) (ca_cons (ce_ixT nt cx (ce_var (i := 0) cx rfl (vis_by rfl)) (ce_var (i := 1) cx rfl (vis_by rfl))) ca_nil)))) (by decide)) ca_nil))))
theorem C_put_together {G : Gd} {fd : FuncData} (b_sorted : G.mg "sorted" = none) (b_tuple : G.mg "tuple" = none) (nt : NoTup G.K) (F : FunD G.K "put_together" "put_together" (defArgs (top 4)) (defBody (top 4)) (defScope (top 4)) [] [] (He.ga G.K "put_together") fd) (g : G.mg "put_together" = some (.ref (He.ga G.K "put_together"))) : Cal G 1 "put_together" ["numbers"] f_put_together :=
  cal_D F sc_put_together g (fun _ _ _ _ _ _ us hl => match us, hl with | [_], _ => rfl) (w_put_together b_sorted b_tuple nt)
noncomputable def m_scaled : MS := (mRet (mCB fTupF (mCons (mLc (mIter (mVar 0)) (gT [(gN 2), (gN 3)]) (mTest (mBin opNe (mVar 1) (mC (.int 0)))) (mTup (mCons (mVar 2) (mCons (mBin opMulU (mVar 3) (mVar 1)) mNil))) [2, 3]) mNil)))
noncomputable def f_scaled : MF := callD 4 m_scaled
theorem sc_scaled : FnScope ["one", "many", "powers", "number"] ["one", "many"] (defScope (top 5)) := ⟨rfl, rfl, rfl, by decide +kernel, rfl, by decide +kernel, by decide +kernel⟩
theorem w_scaled {G : Gd} (b_tuple : G.mg "tuple" = none) (X : Cx) (E : XK) (c : Cq G 0 E ["one", "many", "powers", "number"] (defScope (top 5)) X) (hf : X.fn = fun _ => true) : PSs X (defBody (top 5)) (sD G.K E m_scaled) := by
  exact (css_one (cs_ret (ce_tupleF c b_tuple (ca_cons (ce_lc (own := [("powers", 2), ("number", 3)]) c (ci_any c (ce_var (i := 0) c rfl (vis_by rfl))) rfl rfl (fun _ cx hfcx => (cg_tup cx (cgs_cons (cg_name (i := 2) cx rfl (loc_by rfl) (fnC hfcx (by first | exact .inr rfl | exact .inl rfl))) (cgs_cons (cg_name (i := 3) cx rfl (loc_by rfl) (fnC hfcx (by first | exact .inr rfl | exact .inl rfl))) cgs_nil)))) (fun _ cx => (cts_one (ct_ne cx (ce_var (i := 1) cx rfl (vis_by rfl)) ce_int))) (fun _ cx => (ce_tup (ca_cons (ce_var (i := 2) cx rfl (vis_by rfl)) (ca_cons (ce_mulU cx (ce_var (i := 3) cx rfl (vis_by rfl)) (ce_var (i := 1) cx rfl (vis_by rfl))) ca_nil)))) (by decide)) ca_nil))))
theorem C_scaled {G : Gd} {fd : FuncData} (b_tuple : G.mg "tuple" = none) (F : FunD G.K "scaled" "scaled" (defArgs (top 5)) (defBody (top 5)) (defScope (top 5)) [] [] (He.ga G.K "scaled") fd) (g : G.mg "scaled" = some (.ref (He.ga G.K "scaled"))) : Cal G 1 "scaled" ["one", "many"] f_scaled :=
  cal_D F sc_scaled g (fun _ _ _ _ _ _ us hl => match us, hl with | [_, _], _ => rfl) (w_scaled b_tuple)
noncomputable def m_added : MS := (mSeq (mAsg (mCB fDictT (mCons (mVar 0) mNil)) (gN 2))
  (mSeq (mFor (mIter (mVar 1)) (gT [(gN 3), (gN 4)]) (mSetItemT (mBin opAdd (mGetT (mVar 2) (mVar 3) (mC (.int 0))) (mVar 4)) (mVar 2) (mVar 3)))
  (mRet (mCall 1 f_put_together (mCons (mVar 2) mNil)))))
noncomputable def f_added : MF := callD 5 m_added
theorem sc_added : FnScope ["one", "other", "numbers", "powers", "number"] ["one", "other"] (defScope (top 6)) := ⟨rfl, rfl, rfl, by decide +kernel, rfl, by decide +kernel, by decide +kernel⟩
theorem w_added {G : Gd} (b_dict : G.mg "dict" = none) (C_put_together : Cal G 1 "put_together" ["numbers"] f_put_together) (nt : NoTup G.K) (X : Cx) (E : XK) (c : Cq G 1 E ["one", "other", "numbers", "powers", "number"] (defScope (top 6)) X) (hf : X.fn = fun _ => true) : PSs X (defBody (top 6)) (sD G.K E m_added) := by
  have hj_put_together : 1 ≤ 1 := by decide
  exact (css_cons (cs_set (i := 2) c rfl (loc_by rfl) (fnT hf) (ce_dictT nt c b_dict (ca_cons (ce_var (i := 0) c rfl (vis_by rfl)) ca_nil)))
  (css_cons (cs_for c (ci_any c (ce_var (i := 1) c rfl (vis_by rfl))) (cg_tup c (cgs_cons (cg_name (i := 3) c rfl (loc_by rfl) (fnT hf)) (cgs_cons (cg_name (i := 4) c rfl (loc_by rfl) (fnT hf)) cgs_nil))) (css_one (cs_setItemT nt c (ce_add c (ce_getT nt c (ce_var (i := 2) c rfl (vis_by rfl)) (ce_var (i := 3) c rfl (vis_by rfl)) ce_int ⟨rfl, rfl, rfl, rfl⟩) (ce_var (i := 4) c rfl (vis_by rfl))) (ce_var (i := 2) c rfl (vis_by rfl)) (ce_var (i := 3) c rfl (vis_by rfl)))))
  (css_one (cs_ret (ce_call C_put_together hj_put_together c rfl (ca_cons (ce_var (i := 2) c rfl (vis_by rfl)) ca_nil))))))
theorem C_added {G : Gd} {fd : FuncData} (b_dict : G.mg "dict" = none) (C_put_together : Cal G 1 "put_together" ["numbers"] f_put_together) (nt : NoTup G.K) (F : FunD G.K "added" "added" (defArgs (top 6)) (defBody (top 6)) (defScope (top 6)) [] [] (He.ga G.K "added") fd) (g : G.mg "added" = some (.ref (He.ga G.K "added"))) : Cal G 2 "added" ["one", "other"] f_added :=
  cal_D F sc_added g (fun _ _ _ _ _ _ us hl => match us, hl with | [_, _], _ => rfl) (w_added b_dict C_put_together nt)
noncomputable def m_lessened : MS := (mRet (mCall 2 f_added (mCons (mVar 0) (mCons (mCall 2 f_scaled (mCons (mVar 1) (mCons (mC (.int (-1))) mNil))) mNil))))
noncomputable def f_lessened : MF := callD 2 m_lessened
theorem sc_lessened : FnScope ["one", "other"] ["one", "other"] (defScope (top 7)) := ⟨rfl, rfl, rfl, by decide +kernel, rfl, by decide +kernel, by decide +kernel⟩
theorem w_lessened {G : Gd} (C_added : Cal G 2 "added" ["one", "other"] f_added) (C_scaled : Cal G 1 "scaled" ["one", "many"] f_scaled) (X : Cx) (E : XK) (c : Cq G 2 E ["one", "other"] (defScope (top 7)) X) (hf : X.fn = fun _ => true) : PSs X (defBody (top 7)) (sD G.K E m_lessened) := by
  have hj_added : 2 ≤ 2 := by decide
  have hj_scaled : 1 ≤ 2 := by decide
  exact (css_one (cs_ret (ce_call C_added hj_added c rfl (ca_cons (ce_var (i := 0) c rfl (vis_by rfl)) (ca_cons (ce_call C_scaled hj_scaled c rfl (ca_cons (ce_var (i := 1) c rfl (vis_by rfl)) (ca_cons ce_neg ca_nil))) ca_nil)))))
theorem C_lessened {G : Gd} {fd : FuncData} (C_added : Cal G 2 "added" ["one", "other"] f_added) (C_scaled : Cal G 1 "scaled" ["one", "many"] f_scaled) (F : FunD G.K "lessened" "lessened" (defArgs (top 7)) (defBody (top 7)) (defScope (top 7)) [] [] (He.ga G.K "lessened") fd) (g : G.mg "lessened" = some (.ref (He.ga G.K "lessened"))) : Cal G 3 "lessened" ["one", "other"] f_lessened :=
  cal_D F sc_lessened g (fun _ _ _ _ _ _ us hl => match us, hl with | [_, _], _ => rfl) (w_lessened C_added C_scaled)
noncomputable def m_times : MS := (mSeq (mAsg mTNew (gN 2))
  (mSeq (mFor (mIter (mVar 0)) (gT [(gN 3), (gN 4)]) (mFor (mIter (mVar 1)) (gT [(gN 5), (gN 6)]) (mSeq (mAsg (mCB fTuple (mCons (mLc (mRng (zipF true) (mCons (mVar 3) (mCons (mVar 5) mNil))) (gT [(gN 8), (gN 9)]) mYes (mBin opAdd (mVar 8) (mVar 9)) [8, 9]) mNil)) (gN 7))
  (mSetItemT (mBin opAdd (mGetT (mVar 2) (mVar 7) (mC (.int 0))) (mBin opMulU (mVar 4) (mVar 6))) (mVar 2) (mVar 7)))))
  (mRet (mCall 1 f_put_together (mCons (mVar 2) mNil)))))
noncomputable def f_times : MF := callD 10 m_times
theorem sc_times : FnScope ["one", "other", "numbers", "powers", "number", "more", "another", "here", "first", "second"] ["one", "other"] (defScope (top 8)) := ⟨rfl, rfl, rfl, by decide +kernel, rfl, by decide +kernel, by decide +kernel⟩
theorem w_times {G : Gd} (b_zip : G.mg "zip" = none) (b_tuple : G.mg "tuple" = none) (C_put_together : Cal G 1 "put_together" ["numbers"] f_put_together) (nt : NoTup G.K) (X : Cx) (E : XK) (c : Cq G 1 E ["one", "other", "numbers", "powers", "number", "more", "another", "here", "first", "second"] (defScope (top 8)) X) (hf : X.fn = fun _ => true) : PSs X (defBody (top 8)) (sD G.K E m_times) := by
  have hj_put_together : 1 ≤ 1 := by decide
  exact (css_cons (cs_set (i := 2) c rfl (loc_by rfl) (fnT hf) ce_tnew)
  (css_cons (cs_for c (ci_any c (ce_var (i := 0) c rfl (vis_by rfl))) (cg_tup c (cgs_cons (cg_name (i := 3) c rfl (loc_by rfl) (fnT hf)) (cgs_cons (cg_name (i := 4) c rfl (loc_by rfl) (fnT hf)) cgs_nil))) (css_one (cs_for c (ci_any c (ce_var (i := 1) c rfl (vis_by rfl))) (cg_tup c (cgs_cons (cg_name (i := 5) c rfl (loc_by rfl) (fnT hf)) (cgs_cons (cg_name (i := 6) c rfl (loc_by rfl) (fnT hf)) cgs_nil))) (css_cons (cs_set (i := 7) c rfl (loc_by rfl) (fnT hf) (ce_tuple c b_tuple (ca_cons (ce_lc (own := [("first", 8), ("second", 9)]) c (ci_zipS c rfl b_zip (ca_cons (ce_var (i := 3) c rfl (vis_by rfl)) (ca_cons (ce_var (i := 5) c rfl (vis_by rfl)) ca_nil))) rfl rfl (fun _ cx hfcx => (cg_tup cx (cgs_cons (cg_name (i := 8) cx rfl (loc_by rfl) (fnC hfcx (by first | exact .inr rfl | exact .inl rfl))) (cgs_cons (cg_name (i := 9) cx rfl (loc_by rfl) (fnC hfcx (by first | exact .inr rfl | exact .inl rfl))) cgs_nil)))) (fun _ cx => cts_nil) (fun _ cx => (ce_add cx (ce_var (i := 8) cx rfl (vis_by rfl)) (ce_var (i := 9) cx rfl (vis_by rfl)))) (by decide)) ca_nil)))
  (css_one (cs_setItemT nt c (ce_add c (ce_getT nt c (ce_var (i := 2) c rfl (vis_by rfl)) (ce_var (i := 7) c rfl (vis_by rfl)) ce_int ⟨rfl, rfl, rfl, rfl⟩) (ce_mulU c (ce_var (i := 4) c rfl (vis_by rfl)) (ce_var (i := 6) c rfl (vis_by rfl)))) (ce_var (i := 2) c rfl (vis_by rfl)) (ce_var (i := 7) c rfl (vis_by rfl))))))))
  (css_one (cs_ret (ce_call C_put_together hj_put_together c rfl (ca_cons (ce_var (i := 2) c rfl (vis_by rfl)) ca_nil))))))
theorem C_times {G : Gd} {fd : FuncData} (b_zip : G.mg "zip" = none) (b_tuple : G.mg "tuple" = none) (C_put_together : Cal G 1 "put_together" ["numbers"] f_put_together) (nt : NoTup G.K) (F : FunD G.K "times" "times" (defArgs (top 8)) (defBody (top 8)) (defScope (top 8)) [] [] (He.ga G.K "times") fd) (g : G.mg "times" = some (.ref (He.ga G.K "times"))) : Cal G 2 "times" ["one", "other"] f_times :=
  cal_D F sc_times g (fun _ _ _ _ _ _ us hl => match us, hl with | [_, _], _ => rfl) (w_times b_zip b_tuple C_put_together nt)
noncomputable def m_power_of : MS := (mSeq (mAsg (mC (.int 1)) (gN 2))
  (mSeq (mFor (mRng rng1 (mCons (mVar 1) mNil)) (gN 3) (mAsg (mBin opMulU (mVar 2) (mVar 0)) (gN 2)))
  (mRet (mVar 2))))
noncomputable def f_power_of : MF := callD 4 m_power_of
theorem sc_power_of : FnScope ["number", "many", "found", "turn"] ["number", "many"] (defScope (top 9)) := ⟨rfl, rfl, rfl, by decide +kernel, rfl, by decide +kernel, by decide +kernel⟩
theorem w_power_of {G : Gd} (b_range : G.mg "range" = none) (X : Cx) (E : XK) (c : Cq G 0 E ["number", "many", "found", "turn"] (defScope (top 9)) X) (hf : X.fn = fun _ => true) : PSs X (defBody (top 9)) (sD G.K E m_power_of) := by
  exact (css_cons (cs_set (i := 2) c rfl (loc_by rfl) (fnT hf) ce_int)
  (css_cons (cs_for c (ci_range1 c rfl b_range (ca_cons (ce_var (i := 1) c rfl (vis_by rfl)) ca_nil)) (cg_name (i := 3) c rfl (loc_by rfl) (fnT hf)) (css_one (cs_set (i := 2) c rfl (loc_by rfl) (fnT hf) (ce_mulU c (ce_var (i := 2) c rfl (vis_by rfl)) (ce_var (i := 0) c rfl (vis_by rfl))))))
  (css_one (cs_ret (ce_var (i := 2) c rfl (vis_by rfl))))))
theorem C_power_of {G : Gd} {fd : FuncData} (b_range : G.mg "range" = none) (F : FunD G.K "power_of" "power_of" (defArgs (top 9)) (defBody (top 9)) (defScope (top 9)) [] [] (He.ga G.K "power_of") fd) (g : G.mg "power_of" = some (.ref (He.ga G.K "power_of"))) : Cal G 1 "power_of" ["number", "many"] f_power_of :=
  cal_D F sc_power_of g (fun _ _ _ _ _ _ us hl => match us, hl with | [_, _], _ => rfl) (w_power_of b_range)
noncomputable def m_worth_at : MS := (mSeq (mAsg (mC (.int 0)) (gN 2))
  (mSeq (mFor (mIter (mVar 0)) (gT [(gN 3), (gN 4)]) (mSeq (mAsg (mVar 4) (gN 5))
  (mSeq (mFor (mRng (zipF true) (mCons (mVar 3) (mCons (mVar 1) mNil))) (gT [(gN 6), (gN 7)]) (mAsg (mBin opMulU (mVar 5) (mCall 2 f_power_of (mCons (mVar 7) (mCons (mVar 6) mNil)))) (gN 5)))
  (mAugN 2 opAug (mVar 5)))))
  (mRet (mVar 2))))
noncomputable def f_worth_at : MF := callD 8 m_worth_at
theorem sc_worth_at : FnScope ["one", "numbers", "found", "powers", "number", "here", "power", "worth"] ["one", "numbers"] (defScope (top 10)) := ⟨rfl, rfl, rfl, by decide +kernel, rfl, by decide +kernel, by decide +kernel⟩
theorem w_worth_at {G : Gd} (b_zip : G.mg "zip" = none) (C_power_of : Cal G 1 "power_of" ["number", "many"] f_power_of) (X : Cx) (E : XK) (c : Cq G 1 E ["one", "numbers", "found", "powers", "number", "here", "power", "worth"] (defScope (top 10)) X) (hf : X.fn = fun _ => true) : PSs X (defBody (top 10)) (sD G.K E m_worth_at) := by
  have hj_power_of : 1 ≤ 1 := by decide
  exact (css_cons (cs_set (i := 2) c rfl (loc_by rfl) (fnT hf) ce_int)
  (css_cons (cs_for c (ci_any c (ce_var (i := 0) c rfl (vis_by rfl))) (cg_tup c (cgs_cons (cg_name (i := 3) c rfl (loc_by rfl) (fnT hf)) (cgs_cons (cg_name (i := 4) c rfl (loc_by rfl) (fnT hf)) cgs_nil))) (css_cons (cs_set (i := 5) c rfl (loc_by rfl) (fnT hf) (ce_var (i := 4) c rfl (vis_by rfl)))
  (css_cons (cs_for c (ci_zipS c rfl b_zip (ca_cons (ce_var (i := 3) c rfl (vis_by rfl)) (ca_cons (ce_var (i := 1) c rfl (vis_by rfl)) ca_nil))) (cg_tup c (cgs_cons (cg_name (i := 6) c rfl (loc_by rfl) (fnT hf)) (cgs_cons (cg_name (i := 7) c rfl (loc_by rfl) (fnT hf)) cgs_nil))) (css_one (cs_set (i := 5) c rfl (loc_by rfl) (fnT hf) (ce_mulU c (ce_var (i := 5) c rfl (vis_by rfl)) (ce_call C_power_of hj_power_of c rfl (ca_cons (ce_var (i := 7) c rfl (vis_by rfl)) (ca_cons (ce_var (i := 6) c rfl (vis_by rfl)) ca_nil)))))))
  (css_one (cs_augAdd (i := 2) c rfl (loc_by rfl) (vis_by rfl) (fnT hf) (ce_var (i := 5) c rfl (vis_by rfl)))))))
  (css_one (cs_ret (ce_var (i := 2) c rfl (vis_by rfl))))))
theorem C_worth_at {G : Gd} {fd : FuncData} (b_zip : G.mg "zip" = none) (C_power_of : Cal G 1 "power_of" ["number", "many"] f_power_of) (F : FunD G.K "worth_at" "worth_at" (defArgs (top 10)) (defBody (top 10)) (defScope (top 10)) [] [] (He.ga G.K "worth_at") fd) (g : G.mg "worth_at" = some (.ref (He.ga G.K "worth_at"))) : Cal G 2 "worth_at" ["one", "numbers"] f_worth_at :=
  cal_D F sc_worth_at g (fun _ _ _ _ _ _ us hl => match us, hl with | [_, _], _ => rfl) (w_worth_at b_zip C_power_of)
noncomputable def m__law_deck : MS := (mSeq (mAsg (mCB fList (mCons (mSl (mVar 0) mNoPart (mPart (mC (.int 63)))) mNil)) (gN 1))
  (mSeq (mAsg (mCB fSum (mCons (mLc (mIter (mVar 1)) (gN 3) mYes (mBin opMod (mVar 3) (mC (.int 2147483629))) [3]) mNil)) (gN 2))
  (mRet (mDisp true [((mC (.str "cells")), (mUn opRevC (mVar 1))), ((mC (.str "sum")), (mBin opAdd (mBin opMod (mVar 2) (mC (.int 2147483629))) (mBin opMulU (mC (.int 7919)) (mCB fLen (mCons (mVar 1) mNil))))), ((mC (.str "at")), (mC (.int 0)))]))))
noncomputable def f__law_deck : MF := callK 4 m__law_deck
theorem sc__law_deck : FnScope ["_law_script", "_law_cells", "_law_total", "_law_cell"] ["_law_script"] (defScope (top 12)) := ⟨rfl, rfl, rfl, by decide +kernel, rfl, by decide +kernel, by decide +kernel⟩
theorem w__law_deck {G : Gd} (b_list : G.mg "list" = none) (b_sum : G.mg "sum" = none) (b_len : G.mg "len" = none) (X : Cx) (E : XK) (c : Cq G 0 E ["_law_script", "_law_cells", "_law_total", "_law_cell"] (defScope (top 12)) X) (hf : X.fn = fun _ => true) : PSs X (defBody (top 12)) (sD G.K E m__law_deck) := by
  exact (css_cons (cs_set (i := 1) c rfl (loc_by rfl) (fnT hf) (ce_list c b_list (ca_cons (ce_sl c (ce_var (i := 0) c rfl (vis_by rfl)) co_none (co_some ce_int)) ca_nil)))
  (css_cons (cs_set (i := 2) c rfl (loc_by rfl) (fnT hf) (ce_sum c b_sum (ca_cons (ce_lc (own := [("_law_cell", 3)]) c (ci_any c (ce_var (i := 1) c rfl (vis_by rfl))) rfl rfl (fun _ cx hfcx => (cg_name (i := 3) cx rfl (loc_by rfl) (fnC hfcx (by first | exact .inr rfl | exact .inl rfl)))) (fun _ cx => cts_nil) (fun _ cx => (ce_mod cx (ce_var (i := 3) cx rfl (vis_by rfl)) ce_int)) (by decide)) ca_nil)))
  (css_one (cs_ret (ce_disp (cps_cons ce_str (ce_revC c (ce_var (i := 1) c rfl (vis_by rfl))) (cps_cons ce_str (ce_add c (ce_mod c (ce_var (i := 2) c rfl (vis_by rfl)) ce_int) (ce_mulU c ce_int (ce_len c b_len (ca_cons (ce_var (i := 1) c rfl (vis_by rfl)) ca_nil)))) (cps_cons ce_str ce_int cps_nil))))))))
theorem C__law_deck {G : Gd} {fd : FuncData} (b_list : G.mg "list" = none) (b_sum : G.mg "sum" = none) (b_len : G.mg "len" = none) (F : FunD G.K "_law_deck" "_law_deck" (defArgs (top 12)) (defBody (top 12)) (defScope (top 12)) [] [] (He.ga G.K "_law_deck") fd) (g : G.mg "_law_deck" = some (.ref (He.ga G.K "_law_deck"))) : Cal G 1 "_law_deck" ["_law_script"] f__law_deck :=
  cal_K F sc__law_deck g (fun _ _ _ _ _ _ us hl => match us, hl with | [_], _ => rfl) (w__law_deck b_list b_sum b_len)
noncomputable def m__law_draw : MS := (mSeq (mSetItem (mBin opAdd (mBin opIx (mVar 0) (mC (.str "at"))) (mC (.int 1))) (mVar 0) (mC (.str "at")))
  (mSeq (mAsg (mBin opIx (mVar 0) (mC (.str "at"))) (gN 2))
  (mSeq (mAsg (mBin opAdd (mBin opIx (mVar 0) (mC (.str "sum"))) (mVar 2)) (gN 3))
  (mSeq (mIfS (mTest (mBin opNe (mBin opIx (mVar 0) (mC (.str "cells"))) (mLst mNil))) (mSeq (mAsg (mMeth isLst fPop (mBin opIx (mVar 0) (mC (.str "cells"))) mNil) (gN 3))
  (mIfS (mTest (mBin opGe (mVar 3) (mBin opPow (mC (.int 10)) (mC (.int 18))))) (mSeq (mDrop (mMeth isLst fAppend (mBin opIx (mVar 0) (mC (.str "cells"))) (mCons (mBin opFdiv (mVar 3) (mVar 1)) mNil)))
  (mRet (mBin opMod (mVar 3) (mVar 1)))) mNext)) mNext)
  (mSeq (mAsg (mBin opMod (mBin opAdd (mBin opAdd (mBin opMulU (mBin opMod (mVar 3) (mC (.int 2147483647))) (mC (.int 48271))) (mBin opMulU (mBin opMulU (mC (.int 69621)) (mVar 2)) (mVar 2))) (mC (.int 7919))) (mC (.int 2147483629))) (gN 4))
  (mSeq (mAsg (mBin opMod (mBin opMulU (mVar 4) (mVar 4)) (mC (.int 2147483587))) (gN 4))
  (mRet (mBin opMod (mBin opFdiv (mBin opMod (mBin opMulU (mVar 4) (mBin opAdd (mVar 4) (mC (.int 39373)))) (mC (.int 2147483563))) (mC (.int 64))) (mVar 1)))))))))
noncomputable def f__law_draw : MF := callD 5 m__law_draw
theorem sc__law_draw : FnScope ["_law_deck_here", "_law_ways", "_law_at", "_law_seed", "_law_number_here"] ["_law_deck_here", "_law_ways"] (defScope (top 13)) := ⟨rfl, rfl, rfl, by decide +kernel, rfl, by decide +kernel, by decide +kernel⟩
theorem w__law_draw {G : Gd} (X : Cx) (E : XK) (c : Cq G 0 E ["_law_deck_here", "_law_ways", "_law_at", "_law_seed", "_law_number_here"] (defScope (top 13)) X) (hf : X.fn = fun _ => true) : PSs X (defBody (top 13)) (sD G.K E m__law_draw) := by
  exact (css_cons (cs_setItem c (ce_add c (ce_ix c (ce_var (i := 0) c rfl (vis_by rfl)) ce_str) ce_int) (ce_var (i := 0) c rfl (vis_by rfl)) ce_str)
  (css_cons (cs_set (i := 2) c rfl (loc_by rfl) (fnT hf) (ce_ix c (ce_var (i := 0) c rfl (vis_by rfl)) ce_str))
  (css_cons (cs_set (i := 3) c rfl (loc_by rfl) (fnT hf) (ce_add c (ce_ix c (ce_var (i := 0) c rfl (vis_by rfl)) ce_str) (ce_var (i := 2) c rfl (vis_by rfl))))
  (css_cons (cs_if (ct_ne c (ce_ix c (ce_var (i := 0) c rfl (vis_by rfl)) ce_str) (ce_lst ca_nil)) (css_cons (cs_set (i := 3) c rfl (loc_by rfl) (fnT hf) (ce_pop c (ce_ix c (ce_var (i := 0) c rfl (vis_by rfl)) ce_str)))
  (css_one (cs_if (ct_ge c (ce_var (i := 3) c rfl (vis_by rfl)) (ce_pow c ce_int ce_int)) (css_cons (cs_expr (ce_append c (ce_ix c (ce_var (i := 0) c rfl (vis_by rfl)) ce_str) (ca_cons (ce_fdiv c (ce_var (i := 3) c rfl (vis_by rfl)) (ce_var (i := 1) c rfl (vis_by rfl))) ca_nil)))
  (css_one (cs_ret (ce_mod c (ce_var (i := 3) c rfl (vis_by rfl)) (ce_var (i := 1) c rfl (vis_by rfl)))))) css_nil))) css_nil)
  (css_cons (cs_set (i := 4) c rfl (loc_by rfl) (fnT hf) (ce_mod c (ce_add c (ce_add c (ce_mulU c (ce_mod c (ce_var (i := 3) c rfl (vis_by rfl)) ce_int) ce_int) (ce_mulU c (ce_mulU c ce_int (ce_var (i := 2) c rfl (vis_by rfl))) (ce_var (i := 2) c rfl (vis_by rfl)))) ce_int) ce_int))
  (css_cons (cs_set (i := 4) c rfl (loc_by rfl) (fnT hf) (ce_mod c (ce_mulU c (ce_var (i := 4) c rfl (vis_by rfl)) (ce_var (i := 4) c rfl (vis_by rfl))) ce_int))
  (css_one (cs_ret (ce_mod c (ce_fdiv c (ce_mod c (ce_mulU c (ce_var (i := 4) c rfl (vis_by rfl)) (ce_add c (ce_var (i := 4) c rfl (vis_by rfl)) ce_int)) ce_int) ce_int) (ce_var (i := 1) c rfl (vis_by rfl)))))))))))
theorem C__law_draw {G : Gd} {fd : FuncData} (F : FunD G.K "_law_draw" "_law_draw" (defArgs (top 13)) (defBody (top 13)) (defScope (top 13)) [] [] (He.ga G.K "_law_draw") fd) (g : G.mg "_law_draw" = some (.ref (He.ga G.K "_law_draw"))) : Cal G 1 "_law_draw" ["_law_deck_here", "_law_ways"] f__law_draw :=
  cal_D F sc__law_draw g (fun _ _ _ _ _ _ us hl => match us, hl with | [_, _], _ => rfl) (w__law_draw)
noncomputable def m__law_number : MS := (mRet (mBin opIx (mLst (mCons (mC (.int 1)) (mCons (mC (.int (-1))) (mCons (mC (.int 2)) (mCons (mC (.int 9)) (mCons (mC (.int 10)) (mCons (mC (.int (-10))) (mCons (mC (.int 99)) (mCons (mC (.int 100)) (mCons (mBin opAdd (mBin opPow (mC (.int 10)) (mC (.int 11))) (mCall 2 f__law_draw (mCons (mVar 0) (mCons (mBin opPow (mC (.int 10)) (mC (.int 6))) mNil)))) mNil)))))))))) (mCall 2 f__law_draw (mCons (mVar 0) (mCons (mC (.int 9)) mNil)))))
noncomputable def f__law_number : MF := callD 1 m__law_number
theorem sc__law_number : FnScope ["_law_deck_here"] ["_law_deck_here"] (defScope (top 14)) := ⟨rfl, rfl, rfl, by decide +kernel, rfl, by decide +kernel, by decide +kernel⟩
theorem w__law_number {G : Gd} (C__law_draw : Cal G 1 "_law_draw" ["_law_deck_here", "_law_ways"] f__law_draw) (X : Cx) (E : XK) (c : Cq G 1 E ["_law_deck_here"] (defScope (top 14)) X) (hf : X.fn = fun _ => true) : PSs X (defBody (top 14)) (sD G.K E m__law_number) := by
  have hj__law_draw : 1 ≤ 1 := by decide
  exact (css_one (cs_ret (ce_ix c (ce_lst (ca_cons ce_int (ca_cons ce_neg (ca_cons ce_int (ca_cons ce_int (ca_cons ce_int (ca_cons ce_neg (ca_cons ce_int (ca_cons ce_int (ca_cons (ce_add c (ce_pow c ce_int ce_int) (ce_call C__law_draw hj__law_draw c rfl (ca_cons (ce_var (i := 0) c rfl (vis_by rfl)) (ca_cons (ce_pow c ce_int ce_int) ca_nil)))) ca_nil)))))))))) (ce_call C__law_draw hj__law_draw c rfl (ca_cons (ce_var (i := 0) c rfl (vis_by rfl)) (ca_cons ce_int ca_nil))))))
theorem C__law_number {G : Gd} {fd : FuncData} (C__law_draw : Cal G 1 "_law_draw" ["_law_deck_here", "_law_ways"] f__law_draw) (F : FunD G.K "_law_number" "_law_number" (defArgs (top 14)) (defBody (top 14)) (defScope (top 14)) [] [] (He.ga G.K "_law_number") fd) (g : G.mg "_law_number" = some (.ref (He.ga G.K "_law_number"))) : Cal G 2 "_law_number" ["_law_deck_here"] f__law_number :=
  cal_D F sc__law_number g (fun _ _ _ _ _ _ us hl => match us, hl with | [_], _ => rfl) (w__law_number C__law_draw)
noncomputable def m__law_sum : MS := (mSeq (mAsg mTNew (gN 3))
  (mSeq (mFor (mRng rng1 (mCons (mCall 2 f__law_draw (mCons (mVar 0) (mCons (mBin opAdd (mVar 2) (mC (.int 1))) mNil))) mNil)) (gN 4) (mSeq (mAsg (mCB fTuple (mCons (mLc (mRng rng1 (mCons (mVar 1) mNil)) (gN 6) mYes (mCall 2 f__law_draw (mCons (mVar 0) (mCons (mBin opIx (mLst (mCons (mC (.int 3)) (mCons (mC (.int 11)) mNil))) (mCall 2 f__law_draw (mCons (mVar 0) (mCons (mC (.int 2)) mNil)))) mNil))) [6]) mNil)) (gN 5))
  (mSetItemT (mCall 1 f__law_number (mCons (mVar 0) mNil)) (mVar 3) (mVar 5))))
  (mRet (mCB fTupF (mCons (mSortIt (mVar 3)) mNil)))))
noncomputable def f__law_sum : MF := callD 7 m__law_sum
theorem sc__law_sum : FnScope ["_law_deck_here", "_law_many", "_law_upto", "_law_numbers", "_law_k", "_law_powers", "_law_j"] ["_law_deck_here", "_law_many", "_law_upto"] (defScope (top 15)) := ⟨rfl, rfl, rfl, by decide +kernel, rfl, by decide +kernel, by decide +kernel⟩
theorem w__law_sum {G : Gd} (b_range : G.mg "range" = none) (b_tuple : G.mg "tuple" = none) (b_sorted : G.mg "sorted" = none) (C__law_draw : Cal G 1 "_law_draw" ["_law_deck_here", "_law_ways"] f__law_draw) (C__law_number : Cal G 2 "_law_number" ["_law_deck_here"] f__law_number) (nt : NoTup G.K) (X : Cx) (E : XK) (c : Cq G 2 E ["_law_deck_here", "_law_many", "_law_upto", "_law_numbers", "_law_k", "_law_powers", "_law_j"] (defScope (top 15)) X) (hf : X.fn = fun _ => true) : PSs X (defBody (top 15)) (sD G.K E m__law_sum) := by
  have hj__law_draw : 1 ≤ 2 := by decide
  have hj__law_number : 2 ≤ 2 := by decide
  exact (css_cons (cs_set (i := 3) c rfl (loc_by rfl) (fnT hf) ce_tnew)
  (css_cons (cs_for c (ci_range1 c rfl b_range (ca_cons (ce_call C__law_draw hj__law_draw c rfl (ca_cons (ce_var (i := 0) c rfl (vis_by rfl)) (ca_cons (ce_add c (ce_var (i := 2) c rfl (vis_by rfl)) ce_int) ca_nil))) ca_nil)) (cg_name (i := 4) c rfl (loc_by rfl) (fnT hf)) (css_cons (cs_set (i := 5) c rfl (loc_by rfl) (fnT hf) (ce_tuple c b_tuple (ca_cons (ce_lc (own := [("_law_j", 6)]) c (ci_range1 c rfl b_range (ca_cons (ce_var (i := 1) c rfl (vis_by rfl)) ca_nil)) rfl rfl (fun _ cx hfcx => (cg_name (i := 6) cx rfl (loc_by rfl) (fnC hfcx (by first | exact .inr rfl | exact .inl rfl)))) (fun _ cx => cts_nil) (fun _ cx => (ce_call C__law_draw hj__law_draw cx rfl (ca_cons (ce_var (i := 0) cx rfl (vis_by rfl)) (ca_cons (ce_ix cx (ce_lst (ca_cons ce_int (ca_cons ce_int ca_nil))) (ce_call C__law_draw hj__law_draw cx rfl (ca_cons (ce_var (i := 0) cx rfl (vis_by rfl)) (ca_cons ce_int ca_nil)))) ca_nil)))) (by decide)) ca_nil)))
  (css_one (cs_setItemT nt c (ce_call C__law_number hj__law_number c rfl (ca_cons (ce_var (i := 0) c rfl (vis_by rfl)) ca_nil)) (ce_var (i := 3) c rfl (vis_by rfl)) (ce_var (i := 5) c rfl (vis_by rfl))))))
  (css_one (cs_ret (ce_tupleF c b_tuple (ca_cons (ce_sortIt c b_sorted (ce_var (i := 3) c rfl (vis_by rfl))) ca_nil))))))
theorem C__law_sum {G : Gd} {fd : FuncData} (b_range : G.mg "range" = none) (b_tuple : G.mg "tuple" = none) (b_sorted : G.mg "sorted" = none) (C__law_draw : Cal G 1 "_law_draw" ["_law_deck_here", "_law_ways"] f__law_draw) (C__law_number : Cal G 2 "_law_number" ["_law_deck_here"] f__law_number) (nt : NoTup G.K) (F : FunD G.K "_law_sum" "_law_sum" (defArgs (top 15)) (defBody (top 15)) (defScope (top 15)) [] [] (He.ga G.K "_law_sum") fd) (g : G.mg "_law_sum" = some (.ref (He.ga G.K "_law_sum"))) : Cal G 3 "_law_sum" ["_law_deck_here", "_law_many", "_law_upto"] f__law_sum :=
  cal_D F sc__law_sum g (fun _ _ _ _ _ _ us hl => match us, hl with | [_, _, _], _ => rfl) (w__law_sum b_range b_tuple b_sorted C__law_draw C__law_number nt)
noncomputable def m__law_whole : MS := (mRet (mAndV (mCB fIsi (mCons (mVar 0) (mCons (mC (.ty "int")) mNil))) (mNotV (mCB fIsi (mCons (mVar 0) (mCons (mC (.ty "bool")) mNil))))))
noncomputable def f__law_whole : MF := callD 1 m__law_whole
theorem sc__law_whole : FnScope ["_law_thing"] ["_law_thing"] (defScope (top 16)) := ⟨rfl, rfl, rfl, by decide +kernel, rfl, by decide +kernel, by decide +kernel⟩
theorem w__law_whole {G : Gd} (b_int : G.mg "int" = none) (b_isinstance : G.mg "isinstance" = none) (b_bool : G.mg "bool" = none) (X : Cx) (E : XK) (c : Cq G 0 E ["_law_thing"] (defScope (top 16)) X) (hf : X.fn = fun _ => true) : PSs X (defBody (top 16)) (sD G.K E m__law_whole) := by
  exact (css_one (cs_ret (ce_and (ce_isi c b_isinstance (ca_cons (ce_var (i := 0) c rfl (vis_by rfl)) (ca_cons (ce_ty c b_int rfl (by decide +kernel)) ca_nil))) (ce_one (ce_not (ce_isi c b_isinstance (ca_cons (ce_var (i := 0) c rfl (vis_by rfl)) (ca_cons (ce_ty c b_bool rfl (by decide +kernel)) ca_nil))))))))
theorem C__law_whole {G : Gd} {fd : FuncData} (b_int : G.mg "int" = none) (b_isinstance : G.mg "isinstance" = none) (b_bool : G.mg "bool" = none) (F : FunD G.K "_law_whole" "_law_whole" (defArgs (top 16)) (defBody (top 16)) (defScope (top 16)) [] [] (He.ga G.K "_law_whole") fd) (g : G.mg "_law_whole" = some (.ref (He.ga G.K "_law_whole"))) : Cal G 1 "_law_whole" ["_law_thing"] f__law_whole :=
  cal_D F sc__law_whole g (fun _ _ _ _ _ _ us hl => match us, hl with | [_], _ => rfl) (w__law_whole b_int b_isinstance b_bool)
noncomputable def m__law_is_sum : MS := (mSeq (mIfS (mNotT (mTest (mCB fIsi (mCons (mVar 1) (mCons (mC (.ty "tuple")) mNil))))) (mRet (mC (.bl false))) mNext)
  (mSeq (mFor (mIter (mVar 1)) (gN 2) (mSeq (mIfS (mOrT (mNotT (mTest (mCB fIsi (mCons (mVar 2) (mCons (mC (.ty "tuple")) mNil))))) (mOrT (mTest (mBin opNe (mCB fLen (mCons (mVar 2) mNil)) (mC (.int 2)))) (mOrT (mNotT (mTest (mCB fIsi (mCons (mBin opIx (mVar 2) (mC (.int 0))) (mCons (mC (.ty "tuple")) mNil))))) (mTest (mBin opNe (mCB fLen (mCons (mBin opIx (mVar 2) (mC (.int 0))) mNil)) (mVar 0)))))) (mRet (mC (.bl false))) mNext)
  (mSeq (mIfS (mTest (mBin opNeEL (mLc (mIter (mBin opIx (mVar 2) (mC (.int 0)))) (gN 4) (mOrT (mNotT (mTest (mCall 1 f__law_whole (mCons (mVar 4) mNil)))) (mTest (mBin opLtT (mVar 4) (mC (.int 0))))) (mVar 4) [4]) (mLst mNil))) (mRet (mC (.bl false))) mNext)
  (mIfS (mOrT (mNotT (mTest (mCall 1 f__law_whole (mCons (mBin opIx (mVar 2) (mC (.int 1))) mNil)))) (mTest (mBin opEq (mBin opIx (mVar 2) (mC (.int 1))) (mC (.int 0))))) (mRet (mC (.bl false))) mNext))))
  (mRet (mBin opEq (mLc (mRng (zipF false) (mCons (mVar 1) (mCons (mSl (mVar 1) (mPart (mC (.int 1))) mNoPart) mNil))) (gT [(gN 2), (gN 3)]) (mNotT (mTest (mBin opLtT (mBin opIx (mVar 2) (mC (.int 0))) (mBin opIx (mVar 3) (mC (.int 0)))))) (mC (.int 1)) [2, 3]) (mLst mNil)))))
noncomputable def f__law_is_sum : MF := callD 5 m__law_is_sum
theorem sc__law_is_sum : FnScope ["_law_many", "_law_thing", "_law_one", "_law_other", "_law_power"] ["_law_many", "_law_thing"] (defScope (top 17)) := ⟨rfl, rfl, rfl, by decide +kernel, rfl, by decide +kernel, by decide +kernel⟩
theorem w__law_is_sum {G : Gd} (b_tuple : G.mg "tuple" = none) (b_isinstance : G.mg "isinstance" = none) (b_len : G.mg "len" = none) (b_zip : G.mg "zip" = none) (C__law_whole : Cal G 1 "_law_whole" ["_law_thing"] f__law_whole) (X : Cx) (E : XK) (c : Cq G 1 E ["_law_many", "_law_thing", "_law_one", "_law_other", "_law_power"] (defScope (top 17)) X) (hf : X.fn = fun _ => true) : PSs X (defBody (top 17)) (sD G.K E m__law_is_sum) := by
  have hj__law_whole : 1 ≤ 1 := by decide
  exact (css_cons (cs_if (ct_not (ct_val (ce_isi c b_isinstance (ca_cons (ce_var (i := 1) c rfl (vis_by rfl)) (ca_cons (ce_ty c b_tuple rfl (by decide +kernel)) ca_nil))))) (css_one (cs_ret ce_bl)) css_nil)
  (css_cons (cs_for c (ci_any c (ce_var (i := 1) c rfl (vis_by rfl))) (cg_name (i := 2) c rfl (loc_by rfl) (fnT hf)) (css_cons (cs_if (cw_or (ct_not (ct_val (ce_isi c b_isinstance (ca_cons (ce_var (i := 2) c rfl (vis_by rfl)) (ca_cons (ce_ty c b_tuple rfl (by decide +kernel)) ca_nil))))) (cw_or (ct_ne c (ce_len c b_len (ca_cons (ce_var (i := 2) c rfl (vis_by rfl)) ca_nil)) ce_int) (cw_or (ct_not (ct_val (ce_isi c b_isinstance (ca_cons (ce_ix c (ce_var (i := 2) c rfl (vis_by rfl)) ce_int) (ca_cons (ce_ty c b_tuple rfl (by decide +kernel)) ca_nil))))) (cw_one_or (ct_ne c (ce_len c b_len (ca_cons (ce_ix c (ce_var (i := 2) c rfl (vis_by rfl)) ce_int) ca_nil)) (ce_var (i := 0) c rfl (vis_by rfl))))))).pt (css_one (cs_ret ce_bl)) css_nil)
  (css_cons (cs_if (ct_neEL c (ce_lc (own := [("_law_power", 4)]) c (ci_any c (ce_ix c (ce_var (i := 2) c rfl (vis_by rfl)) ce_int)) rfl rfl (fun _ cx hfcx => (cg_name (i := 4) cx rfl (loc_by rfl) (fnC hfcx (by first | exact .inr rfl | exact .inl rfl)))) (fun _ cx => (cts_one (cw_or (ct_not (ct_val (ce_call C__law_whole hj__law_whole cx rfl (ca_cons (ce_var (i := 4) cx rfl (vis_by rfl)) ca_nil)))) (cw_one_or (ct_ltT cx (ce_var (i := 4) cx rfl (vis_by rfl)) ce_int))).pt)) (fun _ cx => (ce_var (i := 4) cx rfl (vis_by rfl))) (by decide)) (ce_lst ca_nil)) (css_one (cs_ret ce_bl)) css_nil)
  (css_one (cs_if (cw_or (ct_not (ct_val (ce_call C__law_whole hj__law_whole c rfl (ca_cons (ce_ix c (ce_var (i := 2) c rfl (vis_by rfl)) ce_int) ca_nil)))) (cw_one_or (ct_eq c (ce_ix c (ce_var (i := 2) c rfl (vis_by rfl)) ce_int) ce_int))).pt (css_one (cs_ret ce_bl)) css_nil)))))
  (css_one (cs_ret (ce_eq c (ce_lc (own := [("_law_one", 2), ("_law_other", 3)]) c (ci_zipB c rfl b_zip (ca_cons (ce_var (i := 1) c rfl (vis_by rfl)) (ca_cons (ce_sl c (ce_var (i := 1) c rfl (vis_by rfl)) (co_some ce_int) co_none) ca_nil))) rfl rfl (fun _ cx hfcx => (cg_tup cx (cgs_cons (cg_name (i := 2) cx rfl (loc_by rfl) (fnC hfcx (by first | exact .inr rfl | exact .inl rfl))) (cgs_cons (cg_name (i := 3) cx rfl (loc_by rfl) (fnC hfcx (by first | exact .inr rfl | exact .inl rfl))) cgs_nil)))) (fun _ cx => (cts_one (ct_not (ct_ltT cx (ce_ix cx (ce_var (i := 2) cx rfl (vis_by rfl)) ce_int) (ce_ix cx (ce_var (i := 3) cx rfl (vis_by rfl)) ce_int))))) (fun _ cx => ce_int) (by decide)) (ce_lst ca_nil))))))
theorem C__law_is_sum {G : Gd} {fd : FuncData} (b_tuple : G.mg "tuple" = none) (b_isinstance : G.mg "isinstance" = none) (b_len : G.mg "len" = none) (b_zip : G.mg "zip" = none) (C__law_whole : Cal G 1 "_law_whole" ["_law_thing"] f__law_whole) (F : FunD G.K "_law_is_sum" "_law_is_sum" (defArgs (top 17)) (defBody (top 17)) (defScope (top 17)) [] [] (He.ga G.K "_law_is_sum") fd) (g : G.mg "_law_is_sum" = some (.ref (He.ga G.K "_law_is_sum"))) : Cal G 2 "_law_is_sum" ["_law_many", "_law_thing"] f__law_is_sum :=
  cal_D F sc__law_is_sum g (fun _ _ _ _ _ _ us hl => match us, hl with | [_, _], _ => rfl) (w__law_is_sum b_tuple b_isinstance b_len b_zip C__law_whole)
noncomputable def m__law_worth : MS := (mSeq (mAsg (mC (.int 0)) (gN 2))
  (mSeq (mFor (mIter (mVar 0)) (gT [(gN 3), (gN 4)]) (mSeq (mFor (mRng (zipF false) (mCons (mVar 3) (mCons (mVar 1) mNil))) (gT [(gN 5), (gN 6)]) (mFor (mRng rng1 (mCons (mVar 5) mNil)) (gN 7) (mAsg (mBin opMulU (mVar 4) (mVar 6)) (gN 4))))
  (mAsg (mBin opAdd (mVar 2) (mVar 4)) (gN 2))))
  (mRet (mVar 2))))
noncomputable def f__law_worth : MF := callD 8 m__law_worth
theorem sc__law_worth : FnScope ["_law_one", "_law_numbers", "_law_found", "_law_powers", "_law_number_here", "_law_power", "_law_worth_here", "_law_turn"] ["_law_one", "_law_numbers"] (defScope (top 18)) := ⟨rfl, rfl, rfl, by decide +kernel, rfl, by decide +kernel, by decide +kernel⟩
theorem w__law_worth {G : Gd} (b_zip : G.mg "zip" = none) (b_range : G.mg "range" = none) (X : Cx) (E : XK) (c : Cq G 0 E ["_law_one", "_law_numbers", "_law_found", "_law_powers", "_law_number_here", "_law_power", "_law_worth_here", "_law_turn"] (defScope (top 18)) X) (hf : X.fn = fun _ => true) : PSs X (defBody (top 18)) (sD G.K E m__law_worth) := by
  exact (css_cons (cs_set (i := 2) c rfl (loc_by rfl) (fnT hf) ce_int)
  (css_cons (cs_for c (ci_any c (ce_var (i := 0) c rfl (vis_by rfl))) (cg_tup c (cgs_cons (cg_name (i := 3) c rfl (loc_by rfl) (fnT hf)) (cgs_cons (cg_name (i := 4) c rfl (loc_by rfl) (fnT hf)) cgs_nil))) (css_cons (cs_for c (ci_zipB c rfl b_zip (ca_cons (ce_var (i := 3) c rfl (vis_by rfl)) (ca_cons (ce_var (i := 1) c rfl (vis_by rfl)) ca_nil))) (cg_tup c (cgs_cons (cg_name (i := 5) c rfl (loc_by rfl) (fnT hf)) (cgs_cons (cg_name (i := 6) c rfl (loc_by rfl) (fnT hf)) cgs_nil))) (css_one (cs_for c (ci_range1 c rfl b_range (ca_cons (ce_var (i := 5) c rfl (vis_by rfl)) ca_nil)) (cg_name (i := 7) c rfl (loc_by rfl) (fnT hf)) (css_one (cs_set (i := 4) c rfl (loc_by rfl) (fnT hf) (ce_mulU c (ce_var (i := 4) c rfl (vis_by rfl)) (ce_var (i := 6) c rfl (vis_by rfl))))))))
  (css_one (cs_set (i := 2) c rfl (loc_by rfl) (fnT hf) (ce_add c (ce_var (i := 2) c rfl (vis_by rfl)) (ce_var (i := 4) c rfl (vis_by rfl)))))))
  (css_one (cs_ret (ce_var (i := 2) c rfl (vis_by rfl))))))
theorem C__law_worth {G : Gd} {fd : FuncData} (b_zip : G.mg "zip" = none) (b_range : G.mg "range" = none) (F : FunD G.K "_law_worth" "_law_worth" (defArgs (top 18)) (defBody (top 18)) (defScope (top 18)) [] [] (He.ga G.K "_law_worth") fd) (g : G.mg "_law_worth" = some (.ref (He.ga G.K "_law_worth"))) : Cal G 1 "_law_worth" ["_law_one", "_law_numbers"] f__law_worth :=
  cal_D F sc__law_worth g (fun _ _ _ _ _ _ us hl => match us, hl with | [_, _], _ => rfl) (w__law_worth b_zip b_range)
noncomputable def m__law_odd : MS := (mSeq (mAsg (mLst (mCons (mC .non) (mCons (mC (.bl true)) (mCons (mC (.bl false)) (mCons (mC (.int 0)) (mCons (mC (.int (-1))) (mCons (mC (.int 2)) (mCons (mBin opPow (mC (.int 10)) (mC (.int 39))) (mCons (mC (.str "")) (mCons (mC (.str "1")) (mCons (mTup mNil) (mCons (mLst mNil) (mCons (mDNew false) (mCons (mLst (mCons (mVar 1) mNil)) (mCons (mTup (mCons (mVar 1) mNil)) (mCons (mTup (mCons (mTup (mCons (mC (.int 0)) mNil)) (mCons (mC (.int 1)) mNil))) (mCons (mTup (mCons (mC (.int 1)) (mCons (mC (.int 1)) mNil))) mNil))))))))))))))))) (gN 2))
  (mRet (mBin opIx (mVar 2) (mCall 2 f__law_draw (mCons (mVar 0) (mCons (mC (.int 16)) mNil))))))
noncomputable def f__law_odd : MF := callD 3 m__law_odd
theorem sc__law_odd : FnScope ["_law_deck_here", "_law_part", "_law_some"] ["_law_deck_here", "_law_part"] (defScope (top 19)) := ⟨rfl, rfl, rfl, by decide +kernel, rfl, by decide +kernel, by decide +kernel⟩
theorem w__law_odd {G : Gd} (C__law_draw : Cal G 1 "_law_draw" ["_law_deck_here", "_law_ways"] f__law_draw) (X : Cx) (E : XK) (c : Cq G 1 E ["_law_deck_here", "_law_part", "_law_some"] (defScope (top 19)) X) (hf : X.fn = fun _ => true) : PSs X (defBody (top 19)) (sD G.K E m__law_odd) := by
  have hj__law_draw : 1 ≤ 1 := by decide
  exact (css_cons (cs_set (i := 2) c rfl (loc_by rfl) (fnT hf) (ce_lst (ca_cons ce_non (ca_cons ce_bl (ca_cons ce_bl (ca_cons ce_int (ca_cons ce_neg (ca_cons ce_int (ca_cons (ce_pow c ce_int ce_int) (ca_cons ce_str (ca_cons ce_str (ca_cons (ce_tup ca_nil) (ca_cons (ce_lst ca_nil) (ca_cons ce_dnew (ca_cons (ce_lst (ca_cons (ce_var (i := 1) c rfl (vis_by rfl)) ca_nil)) (ca_cons (ce_tup (ca_cons (ce_var (i := 1) c rfl (vis_by rfl)) ca_nil)) (ca_cons (ce_tup (ca_cons (ce_tup (ca_cons ce_int ca_nil)) (ca_cons ce_int ca_nil))) (ca_cons (ce_tup (ca_cons ce_int (ca_cons ce_int ca_nil))) ca_nil))))))))))))))))))
  (css_one (cs_ret (ce_ix c (ce_var (i := 2) c rfl (vis_by rfl)) (ce_call C__law_draw hj__law_draw c rfl (ca_cons (ce_var (i := 0) c rfl (vis_by rfl)) (ca_cons ce_int ca_nil)))))))
theorem C__law_odd {G : Gd} {fd : FuncData} (C__law_draw : Cal G 1 "_law_draw" ["_law_deck_here", "_law_ways"] f__law_draw) (F : FunD G.K "_law_odd" "_law_odd" (defArgs (top 19)) (defBody (top 19)) (defScope (top 19)) [] [] (He.ga G.K "_law_odd") fd) (g : G.mg "_law_odd" = some (.ref (He.ga G.K "_law_odd"))) : Cal G 2 "_law_odd" ["_law_deck_here", "_law_part"] f__law_odd :=
  cal_D F sc__law_odd g (fun _ _ _ _ _ _ us hl => match us, hl with | [_, _], _ => rfl) (w__law_odd C__law_draw)
noncomputable def m__law_bent (fr : MF) : MS := (mSeq (mAsg (mCall 2 f__law_draw (mCons (mVar 0) (mCons (mC (.int 12)) mNil))) (gN 2))
  (mSeq (mIfS (mAndT (mTest (mCB fIsi (mCons (mVar 1) (mCons (mC (.ty "tuple")) mNil)))) (mAndT (mTest (mBin opNeE (mVar 1) (mTup mNil))) (mTest (mBin opLt (mVar 2) (mC (.int 11)))))) (mSeq (mAsg (mCall 2 f__law_draw (mCons (mVar 0) (mCons (mCB fLen (mCons (mVar 1) mNil)) mNil))) (gN 3))
  (mSeq (mIfS (mTest (mBin opGt (mVar 2) (mC (.int 4)))) (mRet (mBin opAddF (mBin opAddF (mSl (mVar 1) mNoPart (mPart (mVar 3))) (mTup (mCons (mCall 2 fr (mCons (mVar 0) (mCons (mBin opIx (mVar 1) (mVar 3)) mNil))) mNil))) (mSl (mVar 1) (mPart (mBin opAddF (mVar 3) (mC (.int 1)))) mNoPart))) mNext)
  (mSeq (mAsg (mLstC (mCons (mBin opAddF (mSl (mVar 1) mNoPart (mPart (mVar 3))) (mSl (mVar 1) (mPart (mBin opAddF (mVar 3) (mC (.int 1)))) mNoPart)) (mCons (mBin opAddF (mSl (mVar 1) mNoPart (mPart (mBin opAddF (mVar 3) (mC (.int 1))))) (mSl (mVar 1) (mPart (mVar 3)) mNoPart)) (mCons (mUn opRevA (mVar 1)) (mCons (mCB fList (mCons (mVar 1) mNil)) mNil))))) (gN 4))
  (mSeq (mDrop (mMeth isLst fAppend (mVar 4) (mCons (mBin opAddF (mBin opAddF (mSl (mVar 1) mNoPart (mPart (mVar 3))) (mUn opRevA (mSl (mVar 1) (mPart (mVar 3)) (mPart (mBin opAddF (mVar 3) (mC (.int 2))))))) (mSl (mVar 1) (mPart (mBin opAddF (mVar 3) (mC (.int 2)))) mNoPart)) mNil)))
  (mRet (mBin opIx (mVar 4) (mVar 2))))))) mNext)
  (mSeq (mIfS (mAndT (mTest (mCB fIsi (mCons (mVar 1) (mCons (mC (.ty "int")) mNil)))) (mTest (mBin opLt (mVar 2) (mC (.int 6))))) (mRet (mBin opIx (mLst (mCons (mBin opAddF (mVar 1) (mC (.int 1))) (mCons (mBin opSubB (mVar 1) (mC (.int 1))) (mCons (mBin opSubB (mC (.int 0)) (mVar 1)) (mCons (mBin opEq (mVar 1) (mC (.int 1))) (mCons (mC (.int 0)) (mCons (mCB fStrX (mCons (mVar 1) mNil)) mNil))))))) (mVar 2))) mNext)
  (mRet (mCall 2 f__law_odd (mCons (mVar 0) (mCons (mVar 1) mNil)))))))
noncomputable def fr__law_bent : Nat → MF
  | 0 => callD 5 mBadS
  | k + 1 => callD 5 (m__law_bent (fr__law_bent k))
noncomputable def f__law_bent : MF := fr__law_bent 12
theorem sc__law_bent : FnScope ["_law_deck_here", "_law_thing", "_law_way", "_law_at", "_law_some"] ["_law_deck_here", "_law_thing"] (defScope (top 20)) := ⟨rfl, rfl, rfl, by decide +kernel, rfl, by decide +kernel, by decide +kernel⟩
theorem w__law_bent {G : Gd} (b_tuple : G.mg "tuple" = none) (b_isinstance : G.mg "isinstance" = none) (b_len : G.mg "len" = none) (b_list : G.mg "list" = none) (b_int : G.mg "int" = none) (b_str : Brp G "str") (C__law_draw : Cal G 1 "_law_draw" ["_law_deck_here", "_law_ways"] f__law_draw) (C__law_odd : Cal G 2 "_law_odd" ["_law_deck_here", "_law_part"] f__law_odd) {fr : MF} {kk : Nat} (C_rec : Cal G (3 + kk) "_law_bent" ["_law_deck_here", "_law_thing"] fr) (X : Cx) (E : XK) (c : Cq G (3 + kk) E ["_law_deck_here", "_law_thing", "_law_way", "_law_at", "_law_some"] (defScope (top 20)) X) (hf : X.fn = fun _ => true) : PSs X (defBody (top 20)) (sD G.K E (m__law_bent fr)) := by
  have hj__law_draw : 1 ≤ 3 + kk := by omega
  have hj__law_odd : 2 ≤ 3 + kk := by omega
  have hj_rec : 3 + kk ≤ 3 + kk := Nat.le_refl _
  exact (css_cons (cs_set (i := 2) c rfl (loc_by rfl) (fnT hf) (ce_call C__law_draw hj__law_draw c rfl (ca_cons (ce_var (i := 0) c rfl (vis_by rfl)) (ca_cons ce_int ca_nil))))
  (css_cons (cs_if (cw_and (ct_val (ce_isi c b_isinstance (ca_cons (ce_var (i := 1) c rfl (vis_by rfl)) (ca_cons (ce_ty c b_tuple rfl (by decide +kernel)) ca_nil)))) (cw_and (ct_neE c (ce_var (i := 1) c rfl (vis_by rfl)) (ce_tup ca_nil)) (cw_one_and (ct_lt c (ce_var (i := 2) c rfl (vis_by rfl)) ce_int)))).pt (css_cons (cs_set (i := 3) c rfl (loc_by rfl) (fnT hf) (ce_call C__law_draw hj__law_draw c rfl (ca_cons (ce_var (i := 0) c rfl (vis_by rfl)) (ca_cons (ce_len c b_len (ca_cons (ce_var (i := 1) c rfl (vis_by rfl)) ca_nil)) ca_nil))))
  (css_cons (cs_if (ct_gt c (ce_var (i := 2) c rfl (vis_by rfl)) ce_int) (css_one (cs_ret (ce_addF c (ce_addF c (ce_sl c (ce_var (i := 1) c rfl (vis_by rfl)) co_none (co_some (ce_var (i := 3) c rfl (vis_by rfl)))) (ce_tup (ca_cons (ce_call C_rec hj_rec c rfl (ca_cons (ce_var (i := 0) c rfl (vis_by rfl)) (ca_cons (ce_ix c (ce_var (i := 1) c rfl (vis_by rfl)) (ce_var (i := 3) c rfl (vis_by rfl))) ca_nil))) ca_nil))) (ce_sl c (ce_var (i := 1) c rfl (vis_by rfl)) (co_some (ce_addF c (ce_var (i := 3) c rfl (vis_by rfl)) ce_int)) co_none)))) css_nil)
  (css_cons (cs_set (i := 4) c rfl (loc_by rfl) (fnT hf) (ce_lstC (ca_cons (ce_addF c (ce_sl c (ce_var (i := 1) c rfl (vis_by rfl)) co_none (co_some (ce_var (i := 3) c rfl (vis_by rfl)))) (ce_sl c (ce_var (i := 1) c rfl (vis_by rfl)) (co_some (ce_addF c (ce_var (i := 3) c rfl (vis_by rfl)) ce_int)) co_none)) (ca_cons (ce_addF c (ce_sl c (ce_var (i := 1) c rfl (vis_by rfl)) co_none (co_some (ce_addF c (ce_var (i := 3) c rfl (vis_by rfl)) ce_int))) (ce_sl c (ce_var (i := 1) c rfl (vis_by rfl)) (co_some (ce_var (i := 3) c rfl (vis_by rfl))) co_none)) (ca_cons (ce_revA c (ce_var (i := 1) c rfl (vis_by rfl))) (ca_cons (ce_list c b_list (ca_cons (ce_var (i := 1) c rfl (vis_by rfl)) ca_nil)) ca_nil))))))
  (css_cons (cs_expr (ce_append c (ce_var (i := 4) c rfl (vis_by rfl)) (ca_cons (ce_addF c (ce_addF c (ce_sl c (ce_var (i := 1) c rfl (vis_by rfl)) co_none (co_some (ce_var (i := 3) c rfl (vis_by rfl)))) (ce_revA c (ce_sl c (ce_var (i := 1) c rfl (vis_by rfl)) (co_some (ce_var (i := 3) c rfl (vis_by rfl))) (co_some (ce_addF c (ce_var (i := 3) c rfl (vis_by rfl)) ce_int))))) (ce_sl c (ce_var (i := 1) c rfl (vis_by rfl)) (co_some (ce_addF c (ce_var (i := 3) c rfl (vis_by rfl)) ce_int)) co_none)) ca_nil)))
  (css_one (cs_ret (ce_ix c (ce_var (i := 4) c rfl (vis_by rfl)) (ce_var (i := 2) c rfl (vis_by rfl))))))))) css_nil)
  (css_cons (cs_if (cw_and (ct_val (ce_isi c b_isinstance (ca_cons (ce_var (i := 1) c rfl (vis_by rfl)) (ca_cons (ce_ty c b_int rfl (by decide +kernel)) ca_nil)))) (cw_one_and (ct_lt c (ce_var (i := 2) c rfl (vis_by rfl)) ce_int))).pt (css_one (cs_ret (ce_ix c (ce_lst (ca_cons (ce_addF c (ce_var (i := 1) c rfl (vis_by rfl)) ce_int) (ca_cons (ce_subB c (ce_var (i := 1) c rfl (vis_by rfl)) ce_int) (ca_cons (ce_subB c ce_int (ce_var (i := 1) c rfl (vis_by rfl))) (ca_cons (ce_eq c (ce_var (i := 1) c rfl (vis_by rfl)) ce_int) (ca_cons ce_int (ca_cons (ce_strX c b_str (ca_cons (ce_var (i := 1) c rfl (vis_by rfl)) ca_nil)) ca_nil))))))) (ce_var (i := 2) c rfl (vis_by rfl))))) css_nil)
  (css_one (cs_ret (ce_call C__law_odd hj__law_odd c rfl (ca_cons (ce_var (i := 0) c rfl (vis_by rfl)) (ca_cons (ce_var (i := 1) c rfl (vis_by rfl)) ca_nil))))))))
theorem C__law_bent {G : Gd} {fd : FuncData} (b_tuple : G.mg "tuple" = none) (b_isinstance : G.mg "isinstance" = none) (b_len : G.mg "len" = none) (b_list : G.mg "list" = none) (b_int : G.mg "int" = none) (b_str : Brp G "str") (C__law_draw : Cal G 1 "_law_draw" ["_law_deck_here", "_law_ways"] f__law_draw) (C__law_odd : Cal G 2 "_law_odd" ["_law_deck_here", "_law_part"] f__law_odd) (F : FunD G.K "_law_bent" "_law_bent" (defArgs (top 20)) (defBody (top 20)) (defScope (top 20)) [] [] (He.ga G.K "_law_bent") fd) (g : G.mg "_law_bent" = some (.ref (He.ga G.K "_law_bent"))) : Cal G 15 "_law_bent" ["_law_deck_here", "_law_thing"] f__law_bent := by
  have key : ∀ k, Cal G (3 + k) "_law_bent" ["_law_deck_here", "_law_thing"] (fr__law_bent k) := by
    intro k
    induction k with
    | zero => exact cal_D (k := 2) F sc__law_bent g (fun _ _ _ _ _ _ us hl => match us, hl with | [_, _], _ => rfl) (fun X E c hf => css_bad)
    | succ k ih => exact cal_D (k := 3 + k) F sc__law_bent g (fun _ _ _ _ _ _ us hl => match us, hl with | [_, _], _ => rfl) (w__law_bent b_tuple b_isinstance b_len b_list b_int b_str C__law_draw C__law_odd ih)
  exact key 12
noncomputable def m__law_both_right : MS := (mSeq (mAsg (mCB fReprX (mCons (mTup (mCons (mVar 2) (mCons (mVar 3) mNil))) mNil)) (gN 4))
  (mSeq (mFor (mRng rng1 (mCons (mC (.int 3)) mNil)) (gN 5) (mSeq (mAsg (mCB fTuple (mCons (mLc (mRng rng1 (mCons (mVar 1) mNil)) (gN 11) mYes (mBin opSub (mCall 2 f__law_draw (mCons (mVar 0) (mCons (mC (.int 9)) mNil))) (mC (.int 4))) [11]) mNil)) (gN 7))
  (mSeq (mPar2 8 9 (mCons (mCall 2 f__law_worth (mCons (mVar 2) (mCons (mVar 7) mNil))) (mCons (mCall 2 f__law_worth (mCons (mVar 3) (mCons (mVar 7) mNil))) mNil)))
  (mSeq (mAsg (mLst (mCons (mCall 2 f_added (mCons (mVar 2) (mCons (mVar 3) mNil))) (mCons (mCall 2 f_lessened (mCons (mVar 2) (mCons (mVar 3) mNil))) (mCons (mCall 2 f_times (mCons (mVar 2) (mCons (mVar 3) mNil))) (mCons (mVar 2) (mCons (mVar 3) mNil)))))) (gN 10))
  (mSeq (mIfS (mTest (mBin opNe (mLc (mIter (mVar 10)) (gN 12) (mOrT (mNotT (mTest (mCall 2 f__law_is_sum (mCons (mVar 1) (mCons (mVar 12) mNil))))) (mTest (mBin opNotB (mCall 2 f_is_sum (mCons (mVar 1) (mCons (mVar 12) mNil))) (mC (.bl true))))) (mVar 12) [12]) (mLst mNil))) (mRet (mC (.bl false))) mNext)
  (mSeq (mIfS (mTest (mBin opNe (mLc (mIter (mVar 10)) (gN 12) mYes (mCall 2 f__law_worth (mCons (mVar 12) (mCons (mVar 7) mNil))) [12]) (mLst (mCons (mBin opAdd (mVar 8) (mVar 9)) (mCons (mBin opSub (mVar 8) (mVar 9)) (mCons (mBin opMulU (mVar 8) (mVar 9)) (mCons (mVar 8) (mCons (mVar 9) mNil)))))))) (mRet (mC (.bl false))) mNext)
  (mIfS (mTest (mBin opNe (mLc (mIter (mVar 10)) (gN 12) mYes (mCall 2 f_worth_at (mCons (mVar 12) (mCons (mVar 7) mNil))) [12]) (mLst (mCons (mBin opAdd (mVar 8) (mVar 9)) (mCons (mBin opSub (mVar 8) (mVar 9)) (mCons (mBin opMulU (mVar 8) (mVar 9)) (mCons (mVar 8) (mCons (mVar 9) mNil)))))))) (mRet (mC (.bl false))) mNext)))))))
  (mSeq (mAsg (mLst (mCons (mCall 2 f_added (mCons (mVar 2) (mCons (mVar 3) mNil))) (mCons (mCall 2 f_lessened (mCons (mVar 2) (mCons (mVar 3) mNil))) (mCons (mCall 2 f_times (mCons (mVar 2) (mCons (mVar 3) mNil))) mNil)))) (gN 6))
  (mSeq (mIfS (mOrT (mTest (mBin opNe (mCB fReprX (mCons (mVar 6) mNil)) (mCB fReprX (mCons (mSl (mVar 10) mNoPart (mPart (mC (.int 3)))) mNil)))) (mOrT (mTest (mBin opNeE (mCall 2 f_lessened (mCons (mVar 2) (mCons (mVar 2) mNil))) (mTup mNil))) (mOrT (mTest (mBin opNeE (mCall 2 f_times (mCons (mVar 2) (mCons (mTupF mNil) mNil))) (mTup mNil))) (mTest (mBin opNe (mCall 2 f_added (mCons (mTupF mNil) (mCons (mVar 3) mNil))) (mVar 3)))))) (mRet (mC (.bl false))) mNext)
  (mRet (mBin opEq (mCB fReprX (mCons (mTup (mCons (mVar 2) (mCons (mVar 3) mNil))) mNil)) (mVar 4)))))))
noncomputable def f__law_both_right : MF := callD 13 m__law_both_right
theorem sc__law_both_right : FnScope ["_law_deck_here", "_law_many", "_law_one", "_law_other", "_law_kept", "_law_turn", "_law_again", "_law_numbers", "_law_a", "_law_b", "_law_told", "_law_k", "_law_thing"] ["_law_deck_here", "_law_many", "_law_one", "_law_other"] (defScope (top 21)) := ⟨rfl, rfl, rfl, by decide +kernel, rfl, by decide +kernel, by decide +kernel⟩
theorem w__law_both_right {G : Gd} (b_repr : Brp G "repr") (b_range : G.mg "range" = none) (b_tuple : G.mg "tuple" = none) (C__law_draw : Cal G 1 "_law_draw" ["_law_deck_here", "_law_ways"] f__law_draw) (C__law_worth : Cal G 1 "_law_worth" ["_law_one", "_law_numbers"] f__law_worth) (C_times : Cal G 2 "times" ["one", "other"] f_times) (C_lessened : Cal G 3 "lessened" ["one", "other"] f_lessened) (C_added : Cal G 2 "added" ["one", "other"] f_added) (C__law_is_sum : Cal G 2 "_law_is_sum" ["_law_many", "_law_thing"] f__law_is_sum) (C_is_sum : Cal G 3 "is_sum" ["many", "thing"] f_is_sum) (C_worth_at : Cal G 2 "worth_at" ["one", "numbers"] f_worth_at) (X : Cx) (E : XK) (c : Cq G 3 E ["_law_deck_here", "_law_many", "_law_one", "_law_other", "_law_kept", "_law_turn", "_law_again", "_law_numbers", "_law_a", "_law_b", "_law_told", "_law_k", "_law_thing"] (defScope (top 21)) X) (hf : X.fn = fun _ => true) : PSs X (defBody (top 21)) (sD G.K E m__law_both_right) := by
  have hj__law_draw : 1 ≤ 3 := by decide
  have hj__law_worth : 1 ≤ 3 := by decide
  have hj_times : 2 ≤ 3 := by decide
  have hj_lessened : 3 ≤ 3 := by decide
  have hj_added : 2 ≤ 3 := by decide
  have hj__law_is_sum : 2 ≤ 3 := by decide
  have hj_is_sum : 3 ≤ 3 := by decide
  have hj_worth_at : 2 ≤ 3 := by decide
  exact (css_cons (cs_set (i := 4) c rfl (loc_by rfl) (fnT hf) (ce_reprX c b_repr (ca_cons (ce_tup (ca_cons (ce_var (i := 2) c rfl (vis_by rfl)) (ca_cons (ce_var (i := 3) c rfl (vis_by rfl)) ca_nil))) ca_nil)))
  (css_cons (cs_for c (ci_range1 c rfl b_range (ca_cons ce_int ca_nil)) (cg_name (i := 5) c rfl (loc_by rfl) (fnT hf)) (css_cons (cs_set (i := 7) c rfl (loc_by rfl) (fnT hf) (ce_tuple c b_tuple (ca_cons (ce_lc (own := [("_law_k", 11)]) c (ci_range1 c rfl b_range (ca_cons (ce_var (i := 1) c rfl (vis_by rfl)) ca_nil)) rfl rfl (fun _ cx hfcx => (cg_name (i := 11) cx rfl (loc_by rfl) (fnC hfcx (by first | exact .inr rfl | exact .inl rfl)))) (fun _ cx => cts_nil) (fun _ cx => (ce_sub cx (ce_call C__law_draw hj__law_draw cx rfl (ca_cons (ce_var (i := 0) cx rfl (vis_by rfl)) (ca_cons ce_int ca_nil))) ce_int)) (by decide)) ca_nil)))
  (css_cons (cs_pr2 (i := 8) (j := 9) c rfl rfl (by decide) rfl rfl (ca_cons (ce_call C__law_worth hj__law_worth c rfl (ca_cons (ce_var (i := 2) c rfl (vis_by rfl)) (ca_cons (ce_var (i := 7) c rfl (vis_by rfl)) ca_nil))) (ca_cons (ce_call C__law_worth hj__law_worth c rfl (ca_cons (ce_var (i := 3) c rfl (vis_by rfl)) (ca_cons (ce_var (i := 7) c rfl (vis_by rfl)) ca_nil))) ca_nil)))
  (css_cons (cs_set (i := 10) c rfl (loc_by rfl) (fnT hf) (ce_lst (ca_cons (ce_call C_added hj_added c rfl (ca_cons (ce_var (i := 2) c rfl (vis_by rfl)) (ca_cons (ce_var (i := 3) c rfl (vis_by rfl)) ca_nil))) (ca_cons (ce_call C_lessened hj_lessened c rfl (ca_cons (ce_var (i := 2) c rfl (vis_by rfl)) (ca_cons (ce_var (i := 3) c rfl (vis_by rfl)) ca_nil))) (ca_cons (ce_call C_times hj_times c rfl (ca_cons (ce_var (i := 2) c rfl (vis_by rfl)) (ca_cons (ce_var (i := 3) c rfl (vis_by rfl)) ca_nil))) (ca_cons (ce_var (i := 2) c rfl (vis_by rfl)) (ca_cons (ce_var (i := 3) c rfl (vis_by rfl)) ca_nil)))))))
  (css_cons (cs_if (ct_ne c (ce_lc (own := [("_law_thing", 12)]) c (ci_any c (ce_var (i := 10) c rfl (vis_by rfl))) rfl rfl (fun _ cx hfcx => (cg_name (i := 12) cx rfl (loc_by rfl) (fnC hfcx (by first | exact .inr rfl | exact .inl rfl)))) (fun _ cx => (cts_one (cw_or (ct_not (ct_val (ce_call C__law_is_sum hj__law_is_sum cx rfl (ca_cons (ce_var (i := 1) cx rfl (vis_by rfl)) (ca_cons (ce_var (i := 12) cx rfl (vis_by rfl)) ca_nil))))) (cw_one_or (ct_notB (ce_call C_is_sum hj_is_sum cx rfl (ca_cons (ce_var (i := 1) cx rfl (vis_by rfl)) (ca_cons (ce_var (i := 12) cx rfl (vis_by rfl)) ca_nil))) ce_bl))).pt)) (fun _ cx => (ce_var (i := 12) cx rfl (vis_by rfl))) (by decide)) (ce_lst ca_nil)) (css_one (cs_ret ce_bl)) css_nil)
  (css_cons (cs_if (ct_ne c (ce_lc (own := [("_law_thing", 12)]) c (ci_any c (ce_var (i := 10) c rfl (vis_by rfl))) rfl rfl (fun _ cx hfcx => (cg_name (i := 12) cx rfl (loc_by rfl) (fnC hfcx (by first | exact .inr rfl | exact .inl rfl)))) (fun _ cx => cts_nil) (fun _ cx => (ce_call C__law_worth hj__law_worth cx rfl (ca_cons (ce_var (i := 12) cx rfl (vis_by rfl)) (ca_cons (ce_var (i := 7) cx rfl (vis_by rfl)) ca_nil)))) (by decide)) (ce_lst (ca_cons (ce_add c (ce_var (i := 8) c rfl (vis_by rfl)) (ce_var (i := 9) c rfl (vis_by rfl))) (ca_cons (ce_sub c (ce_var (i := 8) c rfl (vis_by rfl)) (ce_var (i := 9) c rfl (vis_by rfl))) (ca_cons (ce_mulU c (ce_var (i := 8) c rfl (vis_by rfl)) (ce_var (i := 9) c rfl (vis_by rfl))) (ca_cons (ce_var (i := 8) c rfl (vis_by rfl)) (ca_cons (ce_var (i := 9) c rfl (vis_by rfl)) ca_nil))))))) (css_one (cs_ret ce_bl)) css_nil)
  (css_one (cs_if (ct_ne c (ce_lc (own := [("_law_thing", 12)]) c (ci_any c (ce_var (i := 10) c rfl (vis_by rfl))) rfl rfl (fun _ cx hfcx => (cg_name (i := 12) cx rfl (loc_by rfl) (fnC hfcx (by first | exact .inr rfl | exact .inl rfl)))) (fun _ cx => cts_nil) (fun _ cx => (ce_call C_worth_at hj_worth_at cx rfl (ca_cons (ce_var (i := 12) cx rfl (vis_by rfl)) (ca_cons (ce_var (i := 7) cx rfl (vis_by rfl)) ca_nil)))) (by decide)) (ce_lst (ca_cons (ce_add c (ce_var (i := 8) c rfl (vis_by rfl)) (ce_var (i := 9) c rfl (vis_by rfl))) (ca_cons (ce_sub c (ce_var (i := 8) c rfl (vis_by rfl)) (ce_var (i := 9) c rfl (vis_by rfl))) (ca_cons (ce_mulU c (ce_var (i := 8) c rfl (vis_by rfl)) (ce_var (i := 9) c rfl (vis_by rfl))) (ca_cons (ce_var (i := 8) c rfl (vis_by rfl)) (ca_cons (ce_var (i := 9) c rfl (vis_by rfl)) ca_nil))))))) (css_one (cs_ret ce_bl)) css_nil))))))))
  (css_cons (cs_set (i := 6) c rfl (loc_by rfl) (fnT hf) (ce_lst (ca_cons (ce_call C_added hj_added c rfl (ca_cons (ce_var (i := 2) c rfl (vis_by rfl)) (ca_cons (ce_var (i := 3) c rfl (vis_by rfl)) ca_nil))) (ca_cons (ce_call C_lessened hj_lessened c rfl (ca_cons (ce_var (i := 2) c rfl (vis_by rfl)) (ca_cons (ce_var (i := 3) c rfl (vis_by rfl)) ca_nil))) (ca_cons (ce_call C_times hj_times c rfl (ca_cons (ce_var (i := 2) c rfl (vis_by rfl)) (ca_cons (ce_var (i := 3) c rfl (vis_by rfl)) ca_nil))) ca_nil)))))
  (css_cons (cs_if (cw_or (ct_ne c (ce_reprX c b_repr (ca_cons (ce_var (i := 6) c rfl (vis_by rfl)) ca_nil)) (ce_reprX c b_repr (ca_cons (ce_sl c (ce_var (i := 10) c rfl (vis_by rfl)) co_none (co_some ce_int)) ca_nil))) (cw_or (ct_neE c (ce_call C_lessened hj_lessened c rfl (ca_cons (ce_var (i := 2) c rfl (vis_by rfl)) (ca_cons (ce_var (i := 2) c rfl (vis_by rfl)) ca_nil))) (ce_tup ca_nil)) (cw_or (ct_neE c (ce_call C_times hj_times c rfl (ca_cons (ce_var (i := 2) c rfl (vis_by rfl)) (ca_cons (ce_tupF ca_nil) ca_nil))) (ce_tup ca_nil)) (cw_one_or (ct_ne c (ce_call C_added hj_added c rfl (ca_cons (ce_tupF ca_nil) (ca_cons (ce_var (i := 3) c rfl (vis_by rfl)) ca_nil))) (ce_var (i := 3) c rfl (vis_by rfl))))))).pt (css_one (cs_ret ce_bl)) css_nil)
  (css_one (cs_ret (ce_eq c (ce_reprX c b_repr (ca_cons (ce_tup (ca_cons (ce_var (i := 2) c rfl (vis_by rfl)) (ca_cons (ce_var (i := 3) c rfl (vis_by rfl)) ca_nil))) ca_nil)) (ce_var (i := 4) c rfl (vis_by rfl)))))))))
theorem C__law_both_right {G : Gd} {fd : FuncData} (b_repr : Brp G "repr") (b_range : G.mg "range" = none) (b_tuple : G.mg "tuple" = none) (C__law_draw : Cal G 1 "_law_draw" ["_law_deck_here", "_law_ways"] f__law_draw) (C__law_worth : Cal G 1 "_law_worth" ["_law_one", "_law_numbers"] f__law_worth) (C_times : Cal G 2 "times" ["one", "other"] f_times) (C_lessened : Cal G 3 "lessened" ["one", "other"] f_lessened) (C_added : Cal G 2 "added" ["one", "other"] f_added) (C__law_is_sum : Cal G 2 "_law_is_sum" ["_law_many", "_law_thing"] f__law_is_sum) (C_is_sum : Cal G 3 "is_sum" ["many", "thing"] f_is_sum) (C_worth_at : Cal G 2 "worth_at" ["one", "numbers"] f_worth_at) (F : FunD G.K "_law_both_right" "_law_both_right" (defArgs (top 21)) (defBody (top 21)) (defScope (top 21)) [] [] (He.ga G.K "_law_both_right") fd) (g : G.mg "_law_both_right" = some (.ref (He.ga G.K "_law_both_right"))) : Cal G 4 "_law_both_right" ["_law_deck_here", "_law_many", "_law_one", "_law_other"] f__law_both_right :=
  cal_D F sc__law_both_right g (fun _ _ _ _ _ _ us hl => match us, hl with | [_, _, _, _], _ => rfl) (w__law_both_right b_repr b_range b_tuple C__law_draw C__law_worth C_times C_lessened C_added C__law_is_sum C_is_sum C_worth_at)
noncomputable def m_law : MS := (mSeq (mAsg (mCall 1 f__law_deck (mCons (mVar 0) mNil)) (gN 1))
  (mSeq (mFor (mRng rng1 (mCons (mC (.int 6)) mNil)) (gN 2) (mSeq (mAsg (mCall 2 f__law_draw (mCons (mVar 1) (mCons (mC (.int 5)) mNil))) (gN 3))
  (mSeq (mPar2 4 5 (mCons (mCall 3 f__law_sum (mCons (mVar 1) (mCons (mVar 3) (mCons (mC (.int 8)) mNil)))) (mCons (mCall 3 f__law_sum (mCons (mVar 1) (mCons (mVar 3) (mCons (mC (.int 12)) mNil)))) mNil)))
  (mSeq (mAsg (mBin opIx (mLst (mCons (mVar 5) (mCons (mVar 4) (mCons (mCB fTupF (mCons (mLc (mIter (mVar 4)) (gT [(gN 12), (gN 13)]) mYes (mTup (mCons (mVar 12) (mCons (mBin opSub (mC (.int 0)) (mVar 13)) mNil))) [12, 13]) mNil)) (mCons (mVar 5) mNil))))) (mCall 2 f__law_draw (mCons (mVar 1) (mCons (mC (.int 4)) mNil)))) (gN 5))
  (mSeq (mIfS (mNotT (mTest (mCall 4 f__law_both_right (mCons (mVar 1) (mCons (mVar 3) (mCons (mVar 4) (mCons (mVar 5) mNil))))))) (mRet (mC (.bl false))) mNext)
  (mSeq (mAsg (mLstC (mCons (mC .non) (mCons (mC (.bl true)) (mCons (mC (.int 0)) (mCons (mC (.str "")) (mCons (mTup mNil) (mCons (mLst mNil) (mCons (mDNew false) (mCons (mTup (mCons (mC (.int 0)) mNil)) (mCons (mTup (mCons (mTup mNil) mNil)) (mCons (mTup (mCons (mTup mNil) (mCons (mC (.int 1)) mNil))) (mCons (mTup (mCons (mTup (mCons (mTup mNil) (mCons (mC (.int 1)) mNil))) mNil)) (mCons (mTup (mCons (mTup (mCons (mBin opMulV (mTup (mCons (mC (.int 0)) mNil)) (mVar 3)) (mCons (mC (.int 0)) mNil))) mNil)) (mCons (mCB fList (mCons (mVar 4) mNil)) mNil)))))))))))))) (gN 6))
  (mSeq (mFor (mRng rng1 (mCons (mC (.int 12)) mNil)) (gN 7) (mSeq (mAsg (mBin opEq (mCall 2 f__law_draw (mCons (mVar 1) (mCons (mC (.int 2)) mNil))) (mC (.int 1))) (gN 9))
  (mSeq (mAsg (mCall 2 f__law_bent (mCons (mVar 1) (mCons (mVar 4) mNil))) (gN 8))
  (mSeq (mIfS (mTest (mVar 9)) (mAsg (mCall 2 f__law_bent (mCons (mVar 1) (mCons (mVar 8) mNil))) (gN 8)) mNext)
  (mDrop (mMeth isLst fAppend (mVar 6) (mCons (mVar 8) mNil)))))))
  (mFor (mIter (mBin opAdd (mBin opAdd (mLst (mCons (mVar 4) mNil)) (mVar 6)) (mLst (mCons (mVar 4) mNil)))) (gN 8) (mSeq (mAsg (mCB fReprX (mCons (mVar 8) mNil)) (gN 10))
  (mSeq (mAsg (mCall 2 f_is_sum (mCons (mVar 3) (mCons (mVar 8) mNil))) (gN 11))
  (mIfS (mOrT (mNotT (mTest (mCB fIsi (mCons (mVar 11) (mCons (mC (.ty "bool")) mNil))))) (mOrT (mTest (mBin opNe (mVar 11) (mCall 2 f__law_is_sum (mCons (mVar 3) (mCons (mVar 8) mNil))))) (mTest (mBin opNe (mCB fReprX (mCons (mVar 8) mNil)) (mVar 10))))) (mRet (mC (.bl false))) mNext)))))))))))
  (mRet (mC (.bl true)))))
noncomputable def f_law : MF := callD 14 m_law
theorem sc_law : FnScope ["_law_script", "_law_deck_here", "_law_turn", "_law_many", "_law_one", "_law_other", "_law_things", "_law_k", "_law_thing", "_law_twice", "_law_kept", "_law_found", "_law_powers", "_law_number_here"] ["_law_script"] (defScope (top 22)) := ⟨rfl, rfl, rfl, by decide +kernel, rfl, by decide +kernel, by decide +kernel⟩
theorem w_law {G : Gd} (b_range : G.mg "range" = none) (b_tuple : G.mg "tuple" = none) (b_list : G.mg "list" = none) (b_repr : Brp G "repr") (b_bool : G.mg "bool" = none) (b_isinstance : G.mg "isinstance" = none) (C__law_deck : Cal G 1 "_law_deck" ["_law_script"] f__law_deck) (C__law_draw : Cal G 1 "_law_draw" ["_law_deck_here", "_law_ways"] f__law_draw) (C__law_sum : Cal G 3 "_law_sum" ["_law_deck_here", "_law_many", "_law_upto"] f__law_sum) (C__law_both_right : Cal G 4 "_law_both_right" ["_law_deck_here", "_law_many", "_law_one", "_law_other"] f__law_both_right) (C__law_bent : Cal G 15 "_law_bent" ["_law_deck_here", "_law_thing"] f__law_bent) (C_is_sum : Cal G 3 "is_sum" ["many", "thing"] f_is_sum) (C__law_is_sum : Cal G 2 "_law_is_sum" ["_law_many", "_law_thing"] f__law_is_sum) (X : Cx) (E : XK) (c : Cq G 15 E ["_law_script", "_law_deck_here", "_law_turn", "_law_many", "_law_one", "_law_other", "_law_things", "_law_k", "_law_thing", "_law_twice", "_law_kept", "_law_found", "_law_powers", "_law_number_here"] (defScope (top 22)) X) (hf : X.fn = fun _ => true) : PSs X (defBody (top 22)) (sD G.K E m_law) := by
  have hj__law_deck : 1 ≤ 15 := by decide
  have hj__law_draw : 1 ≤ 15 := by decide
  have hj__law_sum : 3 ≤ 15 := by decide
  have hj__law_both_right : 4 ≤ 15 := by decide
  have hj__law_bent : 15 ≤ 15 := by decide
  have hj_is_sum : 3 ≤ 15 := by decide
  have hj__law_is_sum : 2 ≤ 15 := by decide
  exact (css_cons (cs_set (i := 1) c rfl (loc_by rfl) (fnT hf) (ce_call C__law_deck hj__law_deck c rfl (ca_cons (ce_var (i := 0) c rfl (vis_by rfl)) ca_nil)))
  (css_cons (cs_for c (ci_range1 c rfl b_range (ca_cons ce_int ca_nil)) (cg_name (i := 2) c rfl (loc_by rfl) (fnT hf)) (css_cons (cs_set (i := 3) c rfl (loc_by rfl) (fnT hf) (ce_call C__law_draw hj__law_draw c rfl (ca_cons (ce_var (i := 1) c rfl (vis_by rfl)) (ca_cons ce_int ca_nil))))
  (css_cons (cs_pr2 (i := 4) (j := 5) c rfl rfl (by decide) rfl rfl (ca_cons (ce_call C__law_sum hj__law_sum c rfl (ca_cons (ce_var (i := 1) c rfl (vis_by rfl)) (ca_cons (ce_var (i := 3) c rfl (vis_by rfl)) (ca_cons ce_int ca_nil)))) (ca_cons (ce_call C__law_sum hj__law_sum c rfl (ca_cons (ce_var (i := 1) c rfl (vis_by rfl)) (ca_cons (ce_var (i := 3) c rfl (vis_by rfl)) (ca_cons ce_int ca_nil)))) ca_nil)))
  (css_cons (cs_set (i := 5) c rfl (loc_by rfl) (fnT hf) (ce_ix c (ce_lst (ca_cons (ce_var (i := 5) c rfl (vis_by rfl)) (ca_cons (ce_var (i := 4) c rfl (vis_by rfl)) (ca_cons (ce_tupleF c b_tuple (ca_cons (ce_lc (own := [("_law_powers", 12), ("_law_number_here", 13)]) c (ci_any c (ce_var (i := 4) c rfl (vis_by rfl))) rfl rfl (fun _ cx hfcx => (cg_tup cx (cgs_cons (cg_name (i := 12) cx rfl (loc_by rfl) (fnC hfcx (by first | exact .inr rfl | exact .inl rfl))) (cgs_cons (cg_name (i := 13) cx rfl (loc_by rfl) (fnC hfcx (by first | exact .inr rfl | exact .inl rfl))) cgs_nil)))) (fun _ cx => cts_nil) (fun _ cx => (ce_tup (ca_cons (ce_var (i := 12) cx rfl (vis_by rfl)) (ca_cons (ce_sub cx ce_int (ce_var (i := 13) cx rfl (vis_by rfl))) ca_nil)))) (by decide)) ca_nil)) (ca_cons (ce_var (i := 5) c rfl (vis_by rfl)) ca_nil))))) (ce_call C__law_draw hj__law_draw c rfl (ca_cons (ce_var (i := 1) c rfl (vis_by rfl)) (ca_cons ce_int ca_nil)))))
  (css_cons (cs_if (ct_not (ct_val (ce_call C__law_both_right hj__law_both_right c rfl (ca_cons (ce_var (i := 1) c rfl (vis_by rfl)) (ca_cons (ce_var (i := 3) c rfl (vis_by rfl)) (ca_cons (ce_var (i := 4) c rfl (vis_by rfl)) (ca_cons (ce_var (i := 5) c rfl (vis_by rfl)) ca_nil))))))) (css_one (cs_ret ce_bl)) css_nil)
  (css_cons (cs_set (i := 6) c rfl (loc_by rfl) (fnT hf) (ce_lstC (ca_cons ce_non (ca_cons ce_bl (ca_cons ce_int (ca_cons ce_str (ca_cons (ce_tup ca_nil) (ca_cons (ce_lst ca_nil) (ca_cons ce_dnew (ca_cons (ce_tup (ca_cons ce_int ca_nil)) (ca_cons (ce_tup (ca_cons (ce_tup ca_nil) ca_nil)) (ca_cons (ce_tup (ca_cons (ce_tup ca_nil) (ca_cons ce_int ca_nil))) (ca_cons (ce_tup (ca_cons (ce_tup (ca_cons (ce_tup ca_nil) (ca_cons ce_int ca_nil))) ca_nil)) (ca_cons (ce_tup (ca_cons (ce_tup (ca_cons (ce_mulV c (ce_tup (ca_cons ce_int ca_nil)) (ce_var (i := 3) c rfl (vis_by rfl))) (ca_cons ce_int ca_nil))) ca_nil)) (ca_cons (ce_list c b_list (ca_cons (ce_var (i := 4) c rfl (vis_by rfl)) ca_nil)) ca_nil)))))))))))))))
  (css_cons (cs_for c (ci_range1 c rfl b_range (ca_cons ce_int ca_nil)) (cg_name (i := 7) c rfl (loc_by rfl) (fnT hf)) (css_cons (cs_set (i := 9) c rfl (loc_by rfl) (fnT hf) (ce_eq c (ce_call C__law_draw hj__law_draw c rfl (ca_cons (ce_var (i := 1) c rfl (vis_by rfl)) (ca_cons ce_int ca_nil))) ce_int))
  (css_cons (cs_set (i := 8) c rfl (loc_by rfl) (fnT hf) (ce_call C__law_bent hj__law_bent c rfl (ca_cons (ce_var (i := 1) c rfl (vis_by rfl)) (ca_cons (ce_var (i := 4) c rfl (vis_by rfl)) ca_nil))))
  (css_cons (cs_if (ct_val (ce_var (i := 9) c rfl (vis_by rfl))) (css_one (cs_set (i := 8) c rfl (loc_by rfl) (fnT hf) (ce_call C__law_bent hj__law_bent c rfl (ca_cons (ce_var (i := 1) c rfl (vis_by rfl)) (ca_cons (ce_var (i := 8) c rfl (vis_by rfl)) ca_nil))))) css_nil)
  (css_one (cs_expr (ce_append c (ce_var (i := 6) c rfl (vis_by rfl)) (ca_cons (ce_var (i := 8) c rfl (vis_by rfl)) ca_nil))))))))
  (css_one (cs_for c (ci_any c (ce_add c (ce_add c (ce_lst (ca_cons (ce_var (i := 4) c rfl (vis_by rfl)) ca_nil)) (ce_var (i := 6) c rfl (vis_by rfl))) (ce_lst (ca_cons (ce_var (i := 4) c rfl (vis_by rfl)) ca_nil)))) (cg_name (i := 8) c rfl (loc_by rfl) (fnT hf)) (css_cons (cs_set (i := 10) c rfl (loc_by rfl) (fnT hf) (ce_reprX c b_repr (ca_cons (ce_var (i := 8) c rfl (vis_by rfl)) ca_nil)))
  (css_cons (cs_set (i := 11) c rfl (loc_by rfl) (fnT hf) (ce_call C_is_sum hj_is_sum c rfl (ca_cons (ce_var (i := 3) c rfl (vis_by rfl)) (ca_cons (ce_var (i := 8) c rfl (vis_by rfl)) ca_nil))))
  (css_one (cs_if (cw_or (ct_not (ct_val (ce_isi c b_isinstance (ca_cons (ce_var (i := 11) c rfl (vis_by rfl)) (ca_cons (ce_ty c b_bool rfl (by decide +kernel)) ca_nil))))) (cw_or (ct_ne c (ce_var (i := 11) c rfl (vis_by rfl)) (ce_call C__law_is_sum hj__law_is_sum c rfl (ca_cons (ce_var (i := 3) c rfl (vis_by rfl)) (ca_cons (ce_var (i := 8) c rfl (vis_by rfl)) ca_nil)))) (cw_one_or (ct_ne c (ce_reprX c b_repr (ca_cons (ce_var (i := 8) c rfl (vis_by rfl)) ca_nil)) (ce_var (i := 10) c rfl (vis_by rfl)))))).pt (css_one (cs_ret ce_bl)) css_nil)))))))))))))
  (css_one (cs_ret ce_bl))))
theorem C_law {G : Gd} {fd : FuncData} (b_range : G.mg "range" = none) (b_tuple : G.mg "tuple" = none) (b_list : G.mg "list" = none) (b_repr : Brp G "repr") (b_bool : G.mg "bool" = none) (b_isinstance : G.mg "isinstance" = none) (C__law_deck : Cal G 1 "_law_deck" ["_law_script"] f__law_deck) (C__law_draw : Cal G 1 "_law_draw" ["_law_deck_here", "_law_ways"] f__law_draw) (C__law_sum : Cal G 3 "_law_sum" ["_law_deck_here", "_law_many", "_law_upto"] f__law_sum) (C__law_both_right : Cal G 4 "_law_both_right" ["_law_deck_here", "_law_many", "_law_one", "_law_other"] f__law_both_right) (C__law_bent : Cal G 15 "_law_bent" ["_law_deck_here", "_law_thing"] f__law_bent) (C_is_sum : Cal G 3 "is_sum" ["many", "thing"] f_is_sum) (C__law_is_sum : Cal G 2 "_law_is_sum" ["_law_many", "_law_thing"] f__law_is_sum) (F : FunD G.K "law" "law" (defArgs (top 22)) (defBody (top 22)) (defScope (top 22)) [] [] (He.ga G.K "law") fd) (g : G.mg "law" = some (.ref (He.ga G.K "law"))) : Cal G 16 "law" ["_law_script"] f_law :=
  cal_D F sc_law g (fun _ _ _ _ _ _ us hl => match us, hl with | [_], _ => rfl) (w_law b_range b_tuple b_list b_repr b_bool b_isinstance C__law_deck C__law_draw C__law_sum C__law_both_right C__law_bent C_is_sum C__law_is_sum)
def d_is_whole : He.DefD := ⟨("is_whole", none), "is_whole", "is_whole", defArgs (top 1), defBody (top 1), defScope (top 1), [], []⟩
def d_is_powers : He.DefD := ⟨("is_powers", none), "is_powers", "is_powers", defArgs (top 2), defBody (top 2), defScope (top 2), [], []⟩
def d_is_sum : He.DefD := ⟨("is_sum", none), "is_sum", "is_sum", defArgs (top 3), defBody (top 3), defScope (top 3), [], []⟩
def d_put_together : He.DefD := ⟨("put_together", none), "put_together", "put_together", defArgs (top 4), defBody (top 4), defScope (top 4), [], []⟩
def d_scaled : He.DefD := ⟨("scaled", none), "scaled", "scaled", defArgs (top 5), defBody (top 5), defScope (top 5), [], []⟩
def d_added : He.DefD := ⟨("added", none), "added", "added", defArgs (top 6), defBody (top 6), defScope (top 6), [], []⟩
def d_lessened : He.DefD := ⟨("lessened", none), "lessened", "lessened", defArgs (top 7), defBody (top 7), defScope (top 7), [], []⟩
def d_times : He.DefD := ⟨("times", none), "times", "times", defArgs (top 8), defBody (top 8), defScope (top 8), [], []⟩
def d_power_of : He.DefD := ⟨("power_of", none), "power_of", "power_of", defArgs (top 9), defBody (top 9), defScope (top 9), [], []⟩
def d_worth_at : He.DefD := ⟨("worth_at", none), "worth_at", "worth_at", defArgs (top 10), defBody (top 10), defScope (top 10), [], []⟩
def d__law_deck : He.DefD := ⟨("_law_deck", none), "_law_deck", "_law_deck", defArgs (top 12), defBody (top 12), defScope (top 12), [], []⟩
def d__law_draw : He.DefD := ⟨("_law_draw", none), "_law_draw", "_law_draw", defArgs (top 13), defBody (top 13), defScope (top 13), [], []⟩
def d__law_number : He.DefD := ⟨("_law_number", none), "_law_number", "_law_number", defArgs (top 14), defBody (top 14), defScope (top 14), [], []⟩
def d__law_sum : He.DefD := ⟨("_law_sum", none), "_law_sum", "_law_sum", defArgs (top 15), defBody (top 15), defScope (top 15), [], []⟩
def d__law_whole : He.DefD := ⟨("_law_whole", none), "_law_whole", "_law_whole", defArgs (top 16), defBody (top 16), defScope (top 16), [], []⟩
def d__law_is_sum : He.DefD := ⟨("_law_is_sum", none), "_law_is_sum", "_law_is_sum", defArgs (top 17), defBody (top 17), defScope (top 17), [], []⟩
def d__law_worth : He.DefD := ⟨("_law_worth", none), "_law_worth", "_law_worth", defArgs (top 18), defBody (top 18), defScope (top 18), [], []⟩
def d__law_odd : He.DefD := ⟨("_law_odd", none), "_law_odd", "_law_odd", defArgs (top 19), defBody (top 19), defScope (top 19), [], []⟩
def d__law_bent : He.DefD := ⟨("_law_bent", none), "_law_bent", "_law_bent", defArgs (top 20), defBody (top 20), defScope (top 20), [], []⟩
def d__law_both_right : He.DefD := ⟨("_law_both_right", none), "_law_both_right", "_law_both_right", defArgs (top 21), defBody (top 21), defScope (top 21), [], []⟩
def d_law : He.DefD := ⟨("law", none), "law", "law", defArgs (top 22), defBody (top 22), defScope (top 22), [], []⟩
def fn1 : List He.DefD := [d_is_whole, d_is_powers, d_is_sum, d_put_together, d_scaled, d_added, d_lessened, d_times, d_power_of, d_worth_at]
def fn2 : List He.DefD := [d__law_deck, d__law_draw, d__law_number, d__law_sum, d__law_whole, d__law_is_sum, d__law_worth, d__law_odd, d__law_bent, d__law_both_right, d_law]
def fn : List He.DefD := fn1 ++ fn2
def fa1 : List He.Fa := [.glo "is_whole", .glo "is_powers", .glo "is_sum", .glo "put_together", .glo "scaled", .glo "added", .glo "lessened", .glo "times", .glo "power_of", .glo "worth_at", .glo "_law_deck", .glo "_law_draw", .glo "_law_number", .glo "_law_sum", .glo "_law_whole", .glo "_law_is_sum", .glo "_law_worth"]
def fa2 : List He.Fa := [.glo "_law_odd", .glo "_law_bent", .glo "_law_both_right", .glo "law", .free "int", .free "isinstance", .free "bool", .free "tuple", .free "len", .free "all", .free "zip", .free "sorted", .free "dict", .free "range", .free "list", .free "sum", .free "str", .free "repr"]
def fa : List He.Fa := fa1 ++ fa2
def ex (K : PySem.W.Frag) : Bool := noTupB K && tabNo K
def ts : List He.Tab := []
def as : List Addr := [3, 6, 4, 21, 26, 31, 36, 41, 48, 55, 60, 67, 74, 79, 86, 93, 98, 105, 110, 117, 124, 131, 136, 141, 0, 20, 25, 30, 35, 40, 47, 54, 59, 66, 73, 78, 85, 92, 97, 104, 109, 116, 123, 130, 135, 140, 16, 19, 23, 24, 28, 29, 33, 34, 38, 39, 43, 46, 50, 53, 57, 58, 62, 65, 69, 72, 76, 77, 81, 84, 88, 91, 95, 96, 100, 103, 107, 108, 112, 115, 119, 122, 126, 129, 133, 134, 138, 139, 2]
abbrev R : PySem.W.OpenRow := PySem.W.OpenLaw.row PySem.Challenge.rw_pointhouse_k28_sums
abbrev hk : PySem.W.Hook := Ly.hookZ as fa fn ts ex
def ob (s : PySem.W.SharedT) : He.AlX := Ly.obsZ as fa fn ts ex (HandSHeadRun.getT s)
theorem ob_eq (s : PySem.W.SharedT) : ob s = hk.obs s.abs := Ly.obsZ_eq (HandSHeadRun.getT_eq s)
def names : List PySem.Str := (["is_whole", "is_powers", "is_sum", "put_together", "scaled", "added", "lessened", "times", "power_of", "worth_at", "_law_deck", "_law_draw", "_law_number", "_law_sum", "_law_whole", "_law_is_sum", "_law_worth", "_law_odd", "_law_bent", "_law_both_right"] : List PySem.Str)
set_option maxHeartbeats 0 in
theorem run_false_0 (w : World) : ∀ os : OsState, (HandSHeadRun.endF (HandSHeadRun.stepQ (HandSHeadRun.denQ HandSHeadRun.tabQ) R.prog (w.withFollow "special-get-raises" false)) 8000 R.prog (w.withFollow "special-get-raises" false) os).map (fun s => (HandSHeadRun.looksF R.prog (PySem.W.boot_heap (w.withFollow "special-get-raises" false).params) s.abs, HandSHeadRun.seenQ (PySem.W.view R.prog [22]) names (PySem.importedModules R.prog.main.body) (fun s => PySem.W.xlAt (PySem.W.view R.prog [22]) [] s && PySem.W.recOk R.toRowW.records s) s.abs)) = some (true, PySem.W.openGood (PySem.W.view R.prog [22]) names) := by
  intro os
  kernel_rfl
set_option maxHeartbeats 0 in
theorem run_false_1 (w : World) : ∀ os : OsState, (HandSHeadRun.endF (HandSHeadRun.stepQ (HandSHeadRun.denQ HandSHeadRun.tabQ) R.prog (w.withFollow "special-get-raises" false)) 8000 R.prog (w.withFollow "special-get-raises" false) os).map (fun s => Ly.obsZ as fa fn ts ex (HandSHeadRun.getT s)) = some (He.valX fn ts (w.withFollow "special-get-raises" false)) := by
  intro os
  kernel_rfl
set_option maxHeartbeats 0 in
theorem run_true_0 (w : World) : ∀ os : OsState, (HandSHeadRun.endF (HandSHeadRun.stepQ (HandSHeadRun.denQ HandSHeadRun.tabQ) R.prog (w.withFollow "special-get-raises" true)) 8000 R.prog (w.withFollow "special-get-raises" true) os).map (fun s => (HandSHeadRun.looksF R.prog (PySem.W.boot_heap (w.withFollow "special-get-raises" true).params) s.abs, HandSHeadRun.seenQ (PySem.W.view R.prog [22]) names (PySem.importedModules R.prog.main.body) (fun s => PySem.W.xlAt (PySem.W.view R.prog [22]) [] s && PySem.W.recOk R.toRowW.records s) s.abs)) = some (true, PySem.W.openGood (PySem.W.view R.prog [22]) names) := by
  intro os
  kernel_rfl
set_option maxHeartbeats 0 in
theorem run_true_1 (w : World) : ∀ os : OsState, (HandSHeadRun.endF (HandSHeadRun.stepQ (HandSHeadRun.denQ HandSHeadRun.tabQ) R.prog (w.withFollow "special-get-raises" true)) 8000 R.prog (w.withFollow "special-get-raises" true) os).map (fun s => Ly.obsZ as fa fn ts ex (HandSHeadRun.getT s)) = some (He.valX fn ts (w.withFollow "special-get-raises" true)) := by
  intro os
  kernel_rfl
theorem run_false (w : World) : HandSHeadRun.RunEq R (PySem.W.view R.prog [22]) hk ob 8000 names (w.withFollow "special-get-raises" false) := Ly.run_partsZ (run_false_0 w) (run_false_1 w)
theorem run_true (w : World) : HandSHeadRun.RunEq R (PySem.W.view R.prog [22]) hk ob 8000 names (w.withFollow "special-get-raises" true) := Ly.run_partsZ (run_true_0 w) (run_true_1 w)
theorem run (w : World) : HandSHeadRun.RunEq R (PySem.W.view R.prog [22]) hk ob 8000 names w := PySem.W.byRow2 "special-get-raises" (P := fun w => HandSHeadRun.RunEq R (PySem.W.view R.prog [22]) hk ob 8000 names w) run_false run_true w
theorem facts {P : Program} {w : World} {K : PySem.W.Frag} {h base : Heap} {mg : Str → Option Value} (X : K.In h) (G : h.Ns mainGlobals mg) (cx : He.SaysX fa fn ts [] ex w h K) : Cal ⟨P, w, K, mg, base, some []⟩ 16 "law" ["_law_script"] f_law := by
  have c := cx.t.d
  have b_int : mg "int" = none := He.free_ok X G (c.fact 21 (f := .free "int") rfl)
  have b_isinstance : mg "isinstance" = none := He.free_ok X G (c.fact 22 (f := .free "isinstance") rfl)
  have b_bool : mg "bool" = none := He.free_ok X G (c.fact 23 (f := .free "bool") rfl)
  have b_tuple : mg "tuple" = none := He.free_ok X G (c.fact 24 (f := .free "tuple") rfl)
  have b_len : mg "len" = none := He.free_ok X G (c.fact 25 (f := .free "len") rfl)
  have b_all : mg "all" = none := He.free_ok X G (c.fact 26 (f := .free "all") rfl)
  have b_zip : mg "zip" = none := He.free_ok X G (c.fact 27 (f := .free "zip") rfl)
  have b_sorted : mg "sorted" = none := He.free_ok X G (c.fact 28 (f := .free "sorted") rfl)
  have b_dict : mg "dict" = none := He.free_ok X G (c.fact 29 (f := .free "dict") rfl)
  have b_range : mg "range" = none := He.free_ok X G (c.fact 30 (f := .free "range") rfl)
  have b_list : mg "list" = none := He.free_ok X G (c.fact 31 (f := .free "list") rfl)
  have b_sum : mg "sum" = none := He.free_ok X G (c.fact 32 (f := .free "sum") rfl)
  have b_str : Brp (⟨P, w, K, mg, base, some []⟩ : Gd) "str" := ⟨He.free_ok X G (c.fact 33 (f := .free "str") rfl), rfl⟩
  have b_repr : Brp (⟨P, w, K, mg, base, some []⟩ : Gd) "repr" := ⟨He.free_ok X G (c.fact 34 (f := .free "repr") rfl), rfl⟩
  have nt := noTupB_ok (and_l cx.more)
  obtain ⟨_, F_is_whole⟩ := c.def_ 0 (d := d_is_whole) rfl
  have k_is_whole := C_is_whole (G := ⟨P, w, K, mg, base, some []⟩) b_int b_isinstance b_bool F_is_whole (He.glo_ok X G (c.fact 0 (f := .glo "is_whole") rfl))
  obtain ⟨_, F_is_powers⟩ := c.def_ 1 (d := d_is_powers) rfl
  have k_is_powers := C_is_powers (G := ⟨P, w, K, mg, base, some []⟩) b_tuple b_isinstance b_len b_all k_is_whole F_is_powers (He.glo_ok X G (c.fact 1 (f := .glo "is_powers") rfl))
  obtain ⟨_, F_is_sum⟩ := c.def_ 2 (d := d_is_sum) rfl
  have k_is_sum := C_is_sum (G := ⟨P, w, K, mg, base, some []⟩) b_tuple b_isinstance b_len b_all b_zip k_is_powers k_is_whole F_is_sum (He.glo_ok X G (c.fact 2 (f := .glo "is_sum") rfl))
  obtain ⟨_, F_put_together⟩ := c.def_ 3 (d := d_put_together) rfl
  have k_put_together := C_put_together (G := ⟨P, w, K, mg, base, some []⟩) b_sorted b_tuple nt F_put_together (He.glo_ok X G (c.fact 3 (f := .glo "put_together") rfl))
  obtain ⟨_, F_scaled⟩ := c.def_ 4 (d := d_scaled) rfl
  have k_scaled := C_scaled (G := ⟨P, w, K, mg, base, some []⟩) b_tuple F_scaled (He.glo_ok X G (c.fact 4 (f := .glo "scaled") rfl))
  obtain ⟨_, F_added⟩ := c.def_ 5 (d := d_added) rfl
  have k_added := C_added (G := ⟨P, w, K, mg, base, some []⟩) b_dict k_put_together nt F_added (He.glo_ok X G (c.fact 5 (f := .glo "added") rfl))
  obtain ⟨_, F_lessened⟩ := c.def_ 6 (d := d_lessened) rfl
  have k_lessened := C_lessened (G := ⟨P, w, K, mg, base, some []⟩) k_added k_scaled F_lessened (He.glo_ok X G (c.fact 6 (f := .glo "lessened") rfl))
  obtain ⟨_, F_times⟩ := c.def_ 7 (d := d_times) rfl
  have k_times := C_times (G := ⟨P, w, K, mg, base, some []⟩) b_zip b_tuple k_put_together nt F_times (He.glo_ok X G (c.fact 7 (f := .glo "times") rfl))
  obtain ⟨_, F_power_of⟩ := c.def_ 8 (d := d_power_of) rfl
  have k_power_of := C_power_of (G := ⟨P, w, K, mg, base, some []⟩) b_range F_power_of (He.glo_ok X G (c.fact 8 (f := .glo "power_of") rfl))
  obtain ⟨_, F_worth_at⟩ := c.def_ 9 (d := d_worth_at) rfl
  have k_worth_at := C_worth_at (G := ⟨P, w, K, mg, base, some []⟩) b_zip k_power_of F_worth_at (He.glo_ok X G (c.fact 9 (f := .glo "worth_at") rfl))
  obtain ⟨_, F__law_deck⟩ := c.def_ 10 (d := d__law_deck) rfl
  have k__law_deck := C__law_deck (G := ⟨P, w, K, mg, base, some []⟩) b_list b_sum b_len F__law_deck (He.glo_ok X G (c.fact 10 (f := .glo "_law_deck") rfl))
  obtain ⟨_, F__law_draw⟩ := c.def_ 11 (d := d__law_draw) rfl
  have k__law_draw := C__law_draw (G := ⟨P, w, K, mg, base, some []⟩) F__law_draw (He.glo_ok X G (c.fact 11 (f := .glo "_law_draw") rfl))
  obtain ⟨_, F__law_number⟩ := c.def_ 12 (d := d__law_number) rfl
  have k__law_number := C__law_number (G := ⟨P, w, K, mg, base, some []⟩) k__law_draw F__law_number (He.glo_ok X G (c.fact 12 (f := .glo "_law_number") rfl))
  obtain ⟨_, F__law_sum⟩ := c.def_ 13 (d := d__law_sum) rfl
  have k__law_sum := C__law_sum (G := ⟨P, w, K, mg, base, some []⟩) b_range b_tuple b_sorted k__law_draw k__law_number nt F__law_sum (He.glo_ok X G (c.fact 13 (f := .glo "_law_sum") rfl))
  obtain ⟨_, F__law_whole⟩ := c.def_ 14 (d := d__law_whole) rfl
  have k__law_whole := C__law_whole (G := ⟨P, w, K, mg, base, some []⟩) b_int b_isinstance b_bool F__law_whole (He.glo_ok X G (c.fact 14 (f := .glo "_law_whole") rfl))
  obtain ⟨_, F__law_is_sum⟩ := c.def_ 15 (d := d__law_is_sum) rfl
  have k__law_is_sum := C__law_is_sum (G := ⟨P, w, K, mg, base, some []⟩) b_tuple b_isinstance b_len b_zip k__law_whole F__law_is_sum (He.glo_ok X G (c.fact 15 (f := .glo "_law_is_sum") rfl))
  obtain ⟨_, F__law_worth⟩ := c.def_ 16 (d := d__law_worth) rfl
  have k__law_worth := C__law_worth (G := ⟨P, w, K, mg, base, some []⟩) b_zip b_range F__law_worth (He.glo_ok X G (c.fact 16 (f := .glo "_law_worth") rfl))
  obtain ⟨_, F__law_odd⟩ := c.def_ 17 (d := d__law_odd) rfl
  have k__law_odd := C__law_odd (G := ⟨P, w, K, mg, base, some []⟩) k__law_draw F__law_odd (He.glo_ok X G (c.fact 17 (f := .glo "_law_odd") rfl))
  obtain ⟨_, F__law_bent⟩ := c.def_ 18 (d := d__law_bent) rfl
  have k__law_bent := C__law_bent (G := ⟨P, w, K, mg, base, some []⟩) b_tuple b_isinstance b_len b_list b_int b_str k__law_draw k__law_odd F__law_bent (He.glo_ok X G (c.fact 18 (f := .glo "_law_bent") rfl))
  obtain ⟨_, F__law_both_right⟩ := c.def_ 19 (d := d__law_both_right) rfl
  have k__law_both_right := C__law_both_right (G := ⟨P, w, K, mg, base, some []⟩) b_repr b_range b_tuple k__law_draw k__law_worth k_times k_lessened k_added k__law_is_sum k_is_sum k_worth_at F__law_both_right (He.glo_ok X G (c.fact 19 (f := .glo "_law_both_right") rfl))
  obtain ⟨_, F_law⟩ := c.def_ 20 (d := d_law) rfl
  exact C_law (G := ⟨P, w, K, mg, base, some []⟩) b_range b_tuple b_list b_repr b_bool b_isinstance k__law_deck k__law_draw k__law_sum k__law_both_right k__law_bent k_is_sum k__law_is_sum F_law (He.glo_ok X G (c.fact 20 (f := .glo "law") rfl))
end K28
open PySem PySem.W PySem.Calls PyProof.Rows in
theorem K28.holds_of (math : ∀ ns : List Int, ns.length ≤ 63 → (∀ z ∈ ns, Builtin.Int.intBits z ≤ 1048576) → ∃ M', K28.f_law [Ly.scriptD ns] [] = .ok (.bl true) M') : PySem.Challenge.rw_pointhouse_k28_sums.Holds := by
  w_on; o_law
  refine HandSHeadRun.head_any (r := OpenLaw.row PySem.Challenge.rw_pointhouse_k28_sums) (q := view (OpenLaw.row PySem.Challenge.rw_pointhouse_k28_sums).prog [22]) (H := K28.hk) (ob := K28.ob) (M := 8000) (loose := K28.names) (d := HandSHeadRun.topDef (OpenLaw.row PySem.Challenge.rw_pointhouse_k28_sums).prog 22) (kwd := []) K28.ob_eq
    (by kernel_rfl) (fun s => by kernel_rfl) K28.run (by kernel_rfl) (by kernel_rfl) (by kernel_rfl) (by rfl) (by first | assumption | decide +kernel) (by decide +kernel) ⟨rfl, rfl, rfl, rfl, rfl, by decide +kernel⟩ ?hw ?hc
  case hw => w_witness2
  case hc =>
    refine Ly.walk_data (l := PySem.Challenge.rw_pointhouse_k28_sums) (n := 63) (k := 16) (x := "law") (y := "_law_script") (f := K28.f_law) rfl (by decide) (by kernel_rfl) ⟨rfl, by decide, by decide⟩ ?F math
    intro w mg fa h Y G hmg0
    obtain ⟨K, KX, c⟩ := Y
    have hmg : mg ("law" : PySem.Str) = some (.ref fa) := by
      have e : (HandSHeadRun.topDef (OpenLaw.row PySem.Challenge.rw_pointhouse_k28_sums).prog 22).name = ("law" : PySem.Str) := by kernel_rfl
      rw [← e]
      exact hmg0
    have e := hmg.symm.trans (He.glo_ok KX G (c.t.d.fact 20 (f := .glo "law") rfl))
    cases e
    exact ⟨K, KX, rfl, Ly.tabNo_ok (Ly.and_r c.more), fun base _ _ => K28.facts KX G c⟩
namespace Su
abbrev Row := List Int
abbrev Sm := List (Row × Int)
def mon : Row → Row → Int
  | z :: zs, x :: xs => x ^ z.toNat * mon zs xs
  | _, _ => 1
def wo (xs : Row) : Sm → Int
  | [] => 0
  | p :: s => p.2 * mon p.1 xs + wo xs s
theorem wo_append (xs : Row) : ∀ (s t : Sm), wo xs (s ++ t) = wo xs s + wo xs t
  | [], t => by show _ = 0 + _; rw [Int.zero_add]; rfl
  | p :: s, t => by
    show p.2 * mon p.1 xs + wo xs (s ++ t) = p.2 * mon p.1 xs + wo xs s + wo xs t
    rw [wo_append xs s t]
    omega
theorem wo_perm (xs : Row) {s t : Sm} (h : s.Perm t) : wo xs s = wo xs t := by
  induction h with
  | nil => rfl
  | cons p _ ih =>
    show p.2 * mon p.1 xs + _ = p.2 * mon p.1 xs + _
    rw [ih]
  | swap p q l =>
    show q.2 * mon q.1 xs + (p.2 * mon p.1 xs + wo xs l) = p.2 * mon p.1 xs + (q.2 * mon q.1 xs + wo xs l)
    omega
  | trans _ _ h1 h2 => exact h1.trans h2
theorem wo_filter (xs : Row) : ∀ s : Sm, wo xs (s.filter fun p => decide (p.2 ≠ 0)) = wo xs s
  | [] => rfl
  | p :: s => by
    rw [List.filter_cons]
    split
    · show p.2 * mon p.1 xs + wo xs (s.filter fun p => decide (p.2 ≠ 0)) = p.2 * mon p.1 xs + wo xs s
      rw [wo_filter xs s]
    · next h =>
      have h0 : p.2 = 0 := by
        by_cases e : p.2 = 0
        · exact e
        · exact absurd (decide_eq_true e) h
      show wo xs (s.filter fun p => decide (p.2 ≠ 0)) = p.2 * mon p.1 xs + wo xs s
      rw [wo_filter xs s, h0]
      omega
def sc (n : Int) (s : Sm) : Sm := s.map fun p => (p.1, p.2 * n)
theorem wo_sc (xs : Row) (n : Int) : ∀ s : Sm, wo xs (sc n s) = wo xs s * n
  | [] => by show (0 : Int) = 0 * n; rw [Int.zero_mul]
  | p :: s => by
    show p.2 * n * mon p.1 xs + wo xs (sc n s) = (p.2 * mon p.1 xs + wo xs s) * n
    rw [wo_sc xs n s, Int.add_mul, Int.mul_assoc, Int.mul_comm n, ← Int.mul_assoc]
def get (s : Sm) (z : Row) : Int := match s.find? fun p => decide (p.1 = z) with
  | some p => p.2
  | none => 0
def put (s : Sm) (z : Row) (n : Int) : Sm := if s.any (fun p => decide (p.1 = z)) then s.map (fun p => if p.1 = z then (p.1, n) else p) else s ++ [(z, n)]
theorem any_iff {s : Sm} {z : Row} : s.any (fun p => decide (p.1 = z)) = true ↔ z ∈ s.map (·.1) := by
  simp only [List.any_eq_true, decide_eq_true_eq, List.mem_map]
theorem map_other {s : Sm} {z : Row} {n : Int} (h : z ∉ s.map (·.1)) : s.map (fun p => if p.1 = z then (p.1, n) else p) = s := by
  conv =>
    rhs
    rw [← List.map_id s]
  apply List.map_congr_left
  intro p hp
  rw [if_neg]
  · rfl
  · exact fun e => h (List.mem_map.mpr ⟨p, hp, e⟩)
theorem wo_map (xs : Row) {z : Row} {n : Int} : ∀ {s : Sm}, (s.map (·.1)).Nodup → z ∈ s.map (·.1) → wo xs (s.map fun p => if p.1 = z then (p.1, n) else p) = wo xs s + (n - get s z) * mon z xs
  | [], _, h => by cases h
  | p :: s, hn, h => by
    rw [List.map_cons, List.nodup_cons] at hn
    by_cases e : p.1 = z
    · have hz : z ∉ s.map (·.1) := e ▸ hn.1
      rw [List.map_cons, if_pos e, map_other hz]
      have g : get (p :: s) z = p.2 := by
        unfold get
        rw [List.find?_cons, decide_eq_true e]
      rw [g]
      show n * mon p.1 xs + wo xs s = p.2 * mon p.1 xs + wo xs s + (n - p.2) * mon z xs
      rw [e, Int.sub_mul]
      omega
    · have hz : z ∈ s.map (·.1) := by
        rw [List.map_cons] at h
        rcases List.mem_cons.mp h with h | h
        · exact absurd h.symm e
        · exact h
      rw [List.map_cons, if_neg e]
      have g : get (p :: s) z = get s z := by
        unfold get
        rw [List.find?_cons, decide_eq_false e]
      rw [g]
      show p.2 * mon p.1 xs + wo xs (s.map fun p => if p.1 = z then (p.1, n) else p) = p.2 * mon p.1 xs + wo xs s + (n - get s z) * mon z xs
      rw [wo_map xs hn.2 hz]
      omega
theorem get_none {s : Sm} {z : Row} (h : z ∉ s.map (·.1)) : get s z = 0 := by
  unfold get
  have : s.find? (fun p => decide (p.1 = z)) = none := by
    rw [List.find?_eq_none]
    intro p hp e
    exact h (List.mem_map.mpr ⟨p, hp, of_decide_eq_true e⟩)
  rw [this]
theorem wo_put (xs : Row) {s : Sm} {z : Row} {n : Int} (hn : (s.map (·.1)).Nodup) : wo xs (put s z (get s z + n)) = wo xs s + n * mon z xs := by
  unfold put
  split
  · next h =>
    rw [wo_map xs hn (any_iff.mp h)]
    rw [show get s z + n - get s z = n by omega]
  · next h =>
    have hz : z ∉ s.map (·.1) := fun e => h (any_iff.mpr e)
    rw [wo_append, get_none hz]
    show wo xs s + ((0 + n) * mon z xs + 0) = _
    rw [Int.zero_add]
    omega
theorem keys_map {s : Sm} {z : Row} {n : Int} : (s.map fun p => if p.1 = z then (p.1, n) else p).map (·.1) = s.map (·.1) := by
  rw [List.map_map]
  apply List.map_congr_left
  intro p _
  show (if p.1 = z then (p.1, n) else p).1 = p.1
  split <;> rfl
theorem keys_put {s : Sm} {z : Row} {n : Int} : (put s z n).map (·.1) = if s.any (fun p => decide (p.1 = z)) then s.map (·.1) else s.map (·.1) ++ [z] := by
  unfold put
  split
  · rw [keys_map]
  · rw [List.map_append]
    rfl
theorem nodup_put {s : Sm} {z : Row} {n : Int} (hn : (s.map (·.1)).Nodup) : ((put s z n).map (·.1)).Nodup := by
  rw [keys_put]
  split
  · exact hn
  · next h =>
    rw [List.nodup_append]
    refine ⟨hn, by simp, fun a ha b hb => ?_⟩
    have : b = z := by simpa using hb
    subst this
    exact fun e => h (any_iff.mpr (e ▸ ha))
theorem mem_keys_put {s : Sm} {z w : Row} {n : Int} (h : w ∈ (put s z n).map (·.1)) : w ∈ s.map (·.1) ∨ w = z := by
  rw [keys_put] at h
  split at h
  · exact .inl h
  · rcases List.mem_append.mp h with h | h
    · exact .inl h
    · exact .inr (by simpa using h)
theorem len_put {s : Sm} {z : Row} {n : Int} : (put s z n).length ≤ s.length + 1 := by
  unfold put
  split <;> simp
def addS (s t : Sm) : Sm := t.foldl (fun acc p => put acc p.1 (get acc p.1 + p.2)) s
theorem addS_ok (xs : Row) {P : Row → Prop} : ∀ (t s : Sm), (s.map (·.1)).Nodup → (∀ w ∈ s.map (·.1), P w) → (∀ p ∈ t, P p.1) → ((addS s t).map (·.1)).Nodup ∧ (∀ w ∈ (addS s t).map (·.1), P w) ∧ wo xs (addS s t) = wo xs s + wo xs t ∧ (addS s t).length ≤ s.length + t.length
  | [], s, hn, hp, _ => ⟨hn, hp, by show wo xs s = wo xs s + 0; omega, by show s.length ≤ _; simp⟩
  | p :: t, s, hn, hp, ht => by
    have ih := addS_ok xs (P := P) t (put s p.1 (get s p.1 + p.2)) (nodup_put hn) (fun w hw => (mem_keys_put hw).elim (hp w) fun e => e ▸ ht p (List.mem_cons_self ..)) fun q hq => ht q (List.mem_cons_of_mem _ hq)
    obtain ⟨h1, h2, h3, h4⟩ := ih
    refine ⟨h1, h2, ?_, ?_⟩
    · show wo xs (addS (put s p.1 (get s p.1 + p.2)) t) = _
      rw [h3, wo_put xs hn]
      show _ = wo xs s + (p.2 * mon p.1 xs + wo xs t)
      omega
    · show (addS (put s p.1 (get s p.1 + p.2)) t).length ≤ _
      have := len_put (s := s) (z := p.1) (n := get s p.1 + p.2)
      rw [List.length_cons]
      omega
def zadd (z w : Row) : Row := (z.zip w).map fun p => p.1 + p.2
theorem zadd_len {z w : Row} {k : Nat} (h1 : z.length = k) (h2 : w.length = k) : (zadd z w).length = k := by
  unfold zadd
  rw [List.length_map, List.length_zip]
  omega
theorem zadd_nn {z w : Row} (h1 : ∀ i ∈ z, 0 ≤ i) (h2 : ∀ i ∈ w, 0 ≤ i) : ∀ i ∈ zadd z w, 0 ≤ i := by
  intro i hi
  obtain ⟨p, hp, rfl⟩ := List.mem_map.mp hi
  have a := h1 p.1 (List.of_mem_zip hp).1
  have b := h2 p.2 (List.of_mem_zip hp).2
  show 0 ≤ p.1 + p.2
  omega
theorem mon_add : ∀ {z w xs : Row}, z.length = w.length → (∀ i ∈ z, 0 ≤ i) → (∀ i ∈ w, 0 ≤ i) → mon (zadd z w) xs = mon z xs * mon w xs
  | [], [], _, _, _, _ => by show (1 : Int) = 1 * 1; rfl
  | [], _ :: _, _, h, _, _ => by cases h
  | _ :: _, [], _, h, _, _ => by cases h
  | a :: z, b :: w, [], _, _, _ => by show (1 : Int) = 1 * 1; rfl
  | a :: z, b :: w, x :: xs, h, h1, h2 => by
    have ih := mon_add (z := z) (w := w) (xs := xs) (Nat.succ.inj h) (fun i hi => h1 i (List.mem_cons_of_mem _ hi)) fun i hi => h2 i (List.mem_cons_of_mem _ hi)
    have ha := h1 a (List.mem_cons_self ..)
    have hb := h2 b (List.mem_cons_self ..)
    show x ^ (a + b).toNat * mon (zadd z w) xs = x ^ a.toNat * mon z xs * (x ^ b.toNat * mon w xs)
    rw [ih, Int.toNat_add ha hb, Int.pow_add]
    generalize x ^ a.toNat = A, x ^ b.toNat = B, mon z xs = C, mon w xs = E
    rw [Int.mul_assoc, Int.mul_assoc, ← Int.mul_assoc B, ← Int.mul_assoc C, Int.mul_comm B C]
def mulP (p : Row × Int) (t : Sm) : Sm := t.map fun q => (zadd p.1 q.1, p.2 * q.2)
theorem wo_mulP (xs : Row) {p : Row × Int} {k : Nat} (hp : p.1.length = k) (hn : ∀ i ∈ p.1, 0 ≤ i) : ∀ (t : Sm), (∀ q ∈ t, q.1.length = k ∧ ∀ i ∈ q.1, 0 ≤ i) → wo xs (mulP p t) = p.2 * mon p.1 xs * wo xs t
  | [], _ => by show (0 : Int) = _ * 0; rw [Int.mul_zero]
  | q :: t, h => by
    have hq := h q (List.mem_cons_self ..)
    show p.2 * q.2 * mon (zadd p.1 q.1) xs + wo xs (mulP p t) = p.2 * mon p.1 xs * (q.2 * mon q.1 xs + wo xs t)
    rw [wo_mulP xs hp hn t fun r hr => h r (List.mem_cons_of_mem _ hr), mon_add (by rw [hp, hq.1]) hn hq.2, Int.mul_add]
    generalize mon p.1 xs = A, mon q.1 xs = B, p.2 = C, q.2 = E
    rw [Int.mul_assoc, Int.mul_assoc C A, ← Int.mul_assoc E A, Int.mul_comm E A, Int.mul_assoc A E, Int.mul_assoc C A (E * B)]
def mulFrom (acc : Sm) (s t : Sm) : Sm := s.foldl (fun acc p => addS acc (mulP p t)) acc
theorem mulFrom_ok (xs : Row) {k : Nat} {t : Sm} (ht : ∀ q ∈ t, q.1.length = k ∧ ∀ i ∈ q.1, 0 ≤ i) : ∀ (s acc : Sm), (∀ q ∈ s, q.1.length = k ∧ ∀ i ∈ q.1, 0 ≤ i) → (acc.map (·.1)).Nodup → (∀ w ∈ acc.map (·.1), w.length = k ∧ ∀ i ∈ w, 0 ≤ i) →
    ((mulFrom acc s t).map (·.1)).Nodup ∧ (∀ w ∈ (mulFrom acc s t).map (·.1), w.length = k ∧ ∀ i ∈ w, 0 ≤ i) ∧ wo xs (mulFrom acc s t) = wo xs acc + wo xs s * wo xs t ∧ (mulFrom acc s t).length ≤ acc.length + s.length * t.length
  | [], acc, _, hn, hp => ⟨hn, hp, by show wo xs acc = wo xs acc + 0 * wo xs t; rw [Int.zero_mul]; omega, by show acc.length ≤ _; simp⟩
  | p :: s, acc, hs, hn, hp => by
    have h0 := hs p (List.mem_cons_self ..)
    obtain ⟨a1, a2, a3, a4⟩ := addS_ok xs (P := fun w => w.length = k ∧ ∀ i ∈ w, 0 ≤ i) (mulP p t) acc hn hp fun q hq => by
      obtain ⟨r, hr, rfl⟩ := List.mem_map.mp hq
      exact ⟨zadd_len h0.1 (ht r hr).1, zadd_nn h0.2 (ht r hr).2⟩
    obtain ⟨b1, b2, b3, b4⟩ := mulFrom_ok xs ht s (addS acc (mulP p t)) (fun q hq => hs q (List.mem_cons_of_mem _ hq)) a1 a2
    refine ⟨b1, b2, ?_, ?_⟩
    · show wo xs (mulFrom (addS acc (mulP p t)) s t) = wo xs acc + (p.2 * mon p.1 xs + wo xs s) * wo xs t
      rw [b3, a3, wo_mulP xs h0.1 h0.2 t ht, Int.add_mul]
      omega
    · show (mulFrom (addS acc (mulP p t)) s t).length ≤ _
      have e : (mulP p t).length = t.length := List.length_map ..
      rw [e] at a4
      rw [List.length_cons, Nat.add_mul, Nat.one_mul]
      omega
end Su
namespace Su
open PySem L2 Ly
theorem lt_eq (a b : Row) : ltInts a b = decide (a < b) := PySem.W.dataLt_ints a b
theorem leZ_eq (a b : Row) : leZ a b = decide (a ≤ b) := by
  have e : leZ a b = !ltInts b a := rfl
  rw [e, lt_eq, ← decide_not]
  rfl
theorem le_total' (a b : Row) : a ≤ b ∨ b ≤ a := List.le_total a b
theorem leZ_total (a b : Row) : (leZ a b || leZ b a) = true := by
  rw [leZ_eq, leZ_eq, Bool.or_eq_true, decide_eq_true_eq, decide_eq_true_eq]
  exact le_total' a b
theorem leZ_trans (a b c : Row) (h1 : leZ a b = true) (h2 : leZ b c = true) : leZ a c = true := by
  rw [leZ_eq, decide_eq_true_eq] at h1 h2 ⊢
  exact List.le_trans h1 h2
theorem leZ_self (a : Row) : leZ a a = true := by
  have := leZ_total a a
  simpa using this
theorem lt_of_leZ {a b : Row} (h : leZ a b = true) (n : a ≠ b) : ltInts a b = true := by
  rw [leZ_eq, decide_eq_true_eq] at h
  rw [lt_eq, decide_eq_true_eq]
  rcases Classical.em (a < b) with h1 | h1
  · exact h1
  · exact absurd (List.le_antisymm h h1) n
theorem ltZ_irrefl (a : Row) : ltInts a a = false := by
  rw [lt_eq, decide_eq_false_iff_not]
  exact List.lt_irrefl a
def Rise (s : Sm) : Prop := s.Pairwise fun p q => ltInts p.1 q.1 = true
structure SumOk (k : Nat) (s : Sm) : Prop where
  row : ∀ p ∈ s, p.1.length = k ∧ ∀ i ∈ p.1, 0 ≤ i
  num : ∀ p ∈ s, p.2 ≠ 0
  rise : Rise s
theorem SumOk.nodup {k : Nat} {s : Sm} (h : SumOk k s) : (s.map (·.1)).Nodup := by
  show List.Pairwise _ _
  rw [List.pairwise_map]
  refine h.rise.imp fun {a b} hab e => ?_
  rw [e, ltZ_irrefl] at hab
  cases hab
theorem sort_keys {l : List Row} (hn : l.Nodup) : (l.mergeSort leZ).Pairwise fun a b => ltInts a b = true := by
  have h1 : (l.mergeSort leZ).Pairwise fun a b => leZ a b = true := List.pairwise_mergeSort leZ_trans leZ_total l
  have h2 : (l.mergeSort leZ).Nodup := (List.mergeSort_perm l leZ).nodup_iff.mpr hn
  exact (h1.and h2).imp fun h => lt_of_leZ h.1 h.2
def ptg (d : Sm) : Sm := (((d.map (·.1)).mergeSort leZ).map fun z => (z, get d z)).filter fun p => decide (p.2 ≠ 0)
theorem get_self : ∀ {d : Sm}, (d.map (·.1)).Nodup → (d.map (·.1)).map (fun z => (z, get d z)) = d := by
  intro d hn
  rw [List.map_map]
  conv =>
    rhs
    rw [← List.map_id d]
  apply List.map_congr_left
  intro p hp
  show (p.1, get d p.1) = p
  have : get d p.1 = p.2 := by
    induction d with
    | nil => cases hp
    | cons q d ih =>
      rw [List.map_cons, List.nodup_cons] at hn
      unfold get
      rw [List.find?_cons]
      rcases List.mem_cons.mp hp with rfl | hp
      · rw [decide_eq_true rfl]
      · have hne : q.1 ≠ p.1 := fun e => hn.1 (e ▸ List.mem_map.mpr ⟨p, hp, rfl⟩)
        rw [decide_eq_false hne]
        exact ih hn.2 hp
  rw [this]
theorem ptg_wo (xs : Row) {d : Sm} (hn : (d.map (·.1)).Nodup) : wo xs (ptg d) = wo xs d := by
  unfold ptg
  rw [wo_filter, wo_perm xs ((List.mergeSort_perm (d.map (·.1)) leZ).map fun z => (z, get d z)), get_self hn]
theorem ptg_ok {k : Nat} {d : Sm} (hn : (d.map (·.1)).Nodup) (hr : ∀ w ∈ d.map (·.1), w.length = k ∧ ∀ i ∈ w, 0 ≤ i) : SumOk k (ptg d) := by
  have mem : ∀ p ∈ ptg d, p.1 ∈ d.map (·.1) := fun p hp => by
    obtain ⟨h1, _⟩ := List.mem_filter.mp hp
    obtain ⟨z, hz, rfl⟩ := List.mem_map.mp h1
    exact (List.mergeSort_perm _ _).mem_iff.mp hz
  refine ⟨fun p hp => hr _ (mem p hp), fun p hp => of_decide_eq_true (List.mem_filter.mp hp).2, ?_⟩
  refine List.Pairwise.filter _ ?_
  rw [List.pairwise_map]
  exact sort_keys hn
theorem ptg_len {d : Sm} : (ptg d).length ≤ d.length := by
  unfold ptg
  refine Nat.le_trans (List.length_filter_le _ _) ?_
  rw [List.length_map, List.length_mergeSort, List.length_map]
  exact Nat.le_refl _
theorem leP_keys {a b : Row × Int} (n : a.1 ≠ b.1) : leP a b = leZ a.1 b.1 := by
  show (!PySem.W.dataLt (encP b) (encP a)) = !PySem.W.dataLt (.tuple (b.1.map .int)) (.tuple (a.1.map .int))
  have e : PyData.eqv (.tuple (b.1.map .int)) (.tuple (a.1.map .int)) = false := by
    have inj : ∀ x y : List Int, PyData.eqvAll (x.map .int) (y.map .int) = decide (x = y) := by
      intro x
      induction x with
      | nil => intro y; cases y <;> simp [PyData.eqvAll]
      | cons a x ih =>
        intro y
        cases y with
        | nil => simp [PyData.eqvAll]
        | cons b y =>
          simp only [List.map_cons, PyData.eqvAll, PyData.eqv, ih, List.cons.injEq, Bool.decide_and]
          rfl
    show PyData.eqvAll (b.1.map .int) (a.1.map .int) = false
    rw [inj, decide_eq_false (Ne.symm n)]
  unfold encP
  rw [PySem.W.dataLt_pair (alike_tup b.1 a.1) (by simp [PySem.W.alike]), e, if_neg (by decide)]
theorem leP_self (a : Row × Int) : leP a a = true := by
  unfold leP
  unfold encP
  rw [PySem.W.dataLt_pair (alike_tup a.1 a.1) (by simp [PySem.W.alike])]
  have inj : ∀ x : List Int, PyData.eqvAll (x.map .int) (x.map .int) = true := by
    intro x
    induction x with
    | nil => simp [PyData.eqvAll]
    | cons a x ih =>
      simp only [List.map_cons, PyData.eqvAll, PyData.eqv, ih, Bool.and_true]
      simp
  have e : PyData.eqv (.tuple (a.1.map .int)) (.tuple (a.1.map .int)) = true := inj a.1
  rw [e, if_pos rfl]
  have e2 : PyData.eqv (.int a.2) (.int a.2) = true := by simp [PyData.eqv]
  rw [e2, if_pos rfl]
  rfl
theorem items_sorted {d : Sm} (hn : (d.map (·.1)).Nodup) : (d.mergeSort leP).map (·.1) = (d.map (·.1)).mergeSort leZ := by
  refine List.map_mergeSort fun a ha b hb => ?_
  by_cases e : a.1 = b.1
  · have : a = b := by
      have h0 : ∀ {d : Sm}, (d.map (·.1)).Nodup → a ∈ d → b ∈ d → a = b := by
        intro d
        induction d with
        | nil => intro _ h; cases h
        | cons q d ih =>
          intro hn ha hb
          rw [List.map_cons, List.nodup_cons] at hn
          rcases List.mem_cons.mp ha with ha | ha <;> rcases List.mem_cons.mp hb with hb | hb
          · rw [ha, hb]
          · exact absurd (List.mem_map.mpr ⟨b, hb, by rw [← e, ha]⟩) hn.1
          · exact absurd (List.mem_map.mpr ⟨a, ha, by rw [e, hb]⟩) hn.1
          · exact ih hn.2 ha hb
      exact h0 hn ha hb
    subst this
    rw [leP_self, leZ_self]
  · exact leP_keys e
theorem items_ok {k : Nat} {d : Sm} (hn : (d.map (·.1)).Nodup) (hr : ∀ p ∈ d, (p.1.length = k ∧ ∀ i ∈ p.1, 0 ≤ i) ∧ p.2 ≠ 0) : SumOk k (d.mergeSort leP) := by
  have mem : ∀ p ∈ d.mergeSort leP, p ∈ d := fun p hp => (List.mergeSort_perm _ _).mem_iff.mp hp
  refine ⟨fun p hp => (hr p (mem p hp)).1, fun p hp => (hr p (mem p hp)).2, ?_⟩
  have := sort_keys hn
  rw [← items_sorted hn, List.pairwise_map] at this
  exact this
end Su
namespace Su
open PySem PySem.Spec PyProof.Rows L2 Ly
noncomputable def m_is_whole : MS := (mRet (mAndV (mCB fIsi (mCons (mVar 0) (mCons (mC (.ty "int")) mNil))) (mNotV (mCB fIsi (mCons (mVar 0) (mCons (mC (.ty "bool")) mNil))))))
noncomputable def f_is_whole : MF := callD 1 m_is_whole
noncomputable def m_is_powers : MS := (mRet (mAndV (mCB fIsi (mCons (mVar 1) (mCons (mC (.ty "tuple")) mNil))) (mAndV (mBin opEq (mCB fLen (mCons (mVar 1) mNil)) (mVar 0)) (mCB (fBools fun bs => bs.all id) (mCons (mLc (mIter (mVar 1)) (gN 2) mYes (mAndV (mCall 1 f_is_whole (mCons (mVar 2) mNil)) (mBin opGe (mVar 2) (mC (.int 0)))) [2]) mNil)))))
noncomputable def f_is_powers : MF := callD 3 m_is_powers
noncomputable def m_is_sum : MS := (mSeq (mIfS (mOrT (mNotT (mTest (mCB fIsi (mCons (mVar 1) (mCons (mC (.ty "tuple")) mNil))))) (mNotT (mTest (mCB (fBools fun bs => bs.all id) (mCons (mLc (mIter (mVar 1)) (gN 2) mYes (mAndV (mCB fIsi (mCons (mVar 2) (mCons (mC (.ty "tuple")) mNil))) (mBin opEq (mCB fLen (mCons (mVar 2) mNil)) (mC (.int 2)))) [2]) mNil))))) (mRet (mC (.bl false))) mNext)
  (mSeq (mIfS (mNotT (mTest (mCB (fBools fun bs => bs.all id) (mCons (mLc (mIter (mVar 1)) (gT [(gN 4), (gN 5)]) mYes (mAndV (mCall 2 f_is_powers (mCons (mVar 0) (mCons (mVar 4) mNil))) (mAndV (mCall 1 f_is_whole (mCons (mVar 5) mNil)) (mBin opNe (mVar 5) (mC (.int 0))))) [4, 5]) mNil)))) (mRet (mC (.bl false))) mNext)
  (mRet (mCB (fBools fun bs => bs.all id) (mCons (mLc (mRng (zipF false) (mCons (mVar 1) (mCons (mSl (mVar 1) (mPart (mC (.int 1))) mNoPart) mNil))) (gT [(gN 2), (gN 3)]) mYes (mBin opLtT (mBin opIx (mVar 2) (mC (.int 0))) (mBin opIx (mVar 3) (mC (.int 0)))) [2, 3]) mNil)))))
noncomputable def f_is_sum : MF := callD 6 m_is_sum
noncomputable def m_put_together : MS := (mRet (mCB fTupF (mCons (mLc (mIter (mCB fSortT (mCons (mVar 0) mNil))) (gN 1) (mTest (mBin opNe (mBin opIxT (mVar 0) (mVar 1)) (mC (.int 0)))) (mTup (mCons (mVar 1) (mCons (mBin opIxT (mVar 0) (mVar 1)) mNil))) [1]) mNil)))
noncomputable def f_put_together : MF := callD 2 m_put_together
noncomputable def m_scaled : MS := (mRet (mCB fTupF (mCons (mLc (mIter (mVar 0)) (gT [(gN 2), (gN 3)]) (mTest (mBin opNe (mVar 1) (mC (.int 0)))) (mTup (mCons (mVar 2) (mCons (mBin opMulU (mVar 3) (mVar 1)) mNil))) [2, 3]) mNil)))
noncomputable def f_scaled : MF := callD 4 m_scaled
noncomputable def m_added : MS := (mSeq (mAsg (mCB fDictT (mCons (mVar 0) mNil)) (gN 2))
  (mSeq (mFor (mIter (mVar 1)) (gT [(gN 3), (gN 4)]) (mSetItemT (mBin opAdd (mGetT (mVar 2) (mVar 3) (mC (.int 0))) (mVar 4)) (mVar 2) (mVar 3)))
  (mRet (mCall 1 f_put_together (mCons (mVar 2) mNil)))))
noncomputable def f_added : MF := callD 5 m_added
noncomputable def m_lessened : MS := (mRet (mCall 2 f_added (mCons (mVar 0) (mCons (mCall 2 f_scaled (mCons (mVar 1) (mCons (mC (.int (-1))) mNil))) mNil))))
noncomputable def f_lessened : MF := callD 2 m_lessened
noncomputable def m_times : MS := (mSeq (mAsg mTNew (gN 2))
  (mSeq (mFor (mIter (mVar 0)) (gT [(gN 3), (gN 4)]) (mFor (mIter (mVar 1)) (gT [(gN 5), (gN 6)]) (mSeq (mAsg (mCB fTuple (mCons (mLc (mRng (zipF true) (mCons (mVar 3) (mCons (mVar 5) mNil))) (gT [(gN 8), (gN 9)]) mYes (mBin opAdd (mVar 8) (mVar 9)) [8, 9]) mNil)) (gN 7))
  (mSetItemT (mBin opAdd (mGetT (mVar 2) (mVar 7) (mC (.int 0))) (mBin opMulU (mVar 4) (mVar 6))) (mVar 2) (mVar 7)))))
  (mRet (mCall 1 f_put_together (mCons (mVar 2) mNil)))))
noncomputable def f_times : MF := callD 10 m_times
noncomputable def m_power_of : MS := (mSeq (mAsg (mC (.int 1)) (gN 2))
  (mSeq (mFor (mRng rng1 (mCons (mVar 1) mNil)) (gN 3) (mAsg (mBin opMulU (mVar 2) (mVar 0)) (gN 2)))
  (mRet (mVar 2))))
noncomputable def f_power_of : MF := callD 4 m_power_of
noncomputable def m_worth_at : MS := (mSeq (mAsg (mC (.int 0)) (gN 2))
  (mSeq (mFor (mIter (mVar 0)) (gT [(gN 3), (gN 4)]) (mSeq (mAsg (mVar 4) (gN 5))
  (mSeq (mFor (mRng (zipF true) (mCons (mVar 3) (mCons (mVar 1) mNil))) (gT [(gN 6), (gN 7)]) (mAsg (mBin opMulU (mVar 5) (mCall 2 f_power_of (mCons (mVar 7) (mCons (mVar 6) mNil)))) (gN 5)))
  (mAugN 2 opAug (mVar 5)))))
  (mRet (mVar 2))))
noncomputable def f_worth_at : MF := callD 8 m_worth_at
end Su
namespace Su
open PySem PySem.Spec PyProof.Rows L2 Ly
section
variable {g : GD} {t : MT} {el : ME} {chk : Mem → Prop} {env : Ly.Env} {Q : List D → Mem → Prop} {d : D} {ds acc : List D} {e1 : Ly.Env} {M : Mem}
theorem cp_cons (h1 : chk M) (h2 : g.f d env = some e1) (h3 : Go (t e1 M) fun c M1 => if c then Go (el e1 M1) fun y M2 => acc.length + 1 ≤ 100000 ∧ Go (compL g t el chk env ds (acc ++ [y]) M2) Q else Go (compL g t el chk env ds acc M1) Q) : Go (compL g t el chk env (d :: ds) acc M) Q := by
  unfold compL
  rw [if_pos h1, h2]
  obtain ⟨c, M1, q, h3⟩ := h3.ok
  simp only [q, noX, Res.bind]
  cases c with
  | false => exact h3
  | true =>
    rw [if_pos rfl] at h3 ⊢
    obtain ⟨y, M2, q2, h4, h5⟩ := h3.ok
    simp only [q2, noX, Res.bind]
    rw [if_pos (show szOk (acc.length + 1) = true from decide_eq_true h4)]
    exact h5
theorem cp_nil (h : chk M) (q : Q acc M) : Go (compL g t el chk env [] acc M) Q := by
  unfold compL
  rw [if_pos h]
  exact q
end
theorem cp_pure {α : Type} {g : GD} {el : ME} {chk : Mem → Prop} {env : Ly.Env} {f h : α → D} {M : Mem} {Q : List D → Mem → Prop} (hc : chk M) : ∀ (xs : List α) (acc : List D), acc.length + xs.length ≤ 100000 → (∀ x ∈ xs, ∃ e1, g.f (f x) env = some e1 ∧ ∀ K : D → Mem → Prop, K (h x) M → Go (el e1 M) K) → Q (acc ++ xs.map h) M → Go (compL g mYes el chk env (xs.map f) acc M) Q
  | [], acc, _, _, q => cp_nil hc (by simpa using q)
  | x :: xs, acc, hl, he, q => by
    obtain ⟨e1, h1, h2⟩ := he x List.mem_cons_self
    rw [List.length_cons] at hl
    refine cp_cons hc h1 ?_
    rw [go_yes, if_pos rfl]
    refine h2 _ ⟨by omega, ?_⟩
    exact cp_pure hc xs (acc ++ [h x]) (by rw [List.length_append, List.length_singleton]; omega) (fun y hy => he y (List.mem_cons_of_mem _ hy)) (by rw [List.append_assoc]; exact q)
theorem cp_filter {α : Type} {g : GD} {t : MT} {el : ME} {chk : Mem → Prop} {env : Ly.Env} {f h : α → D} {p : α → Bool} {M : Mem} {Q : List D → Mem → Prop} (hc : chk M) : ∀ (xs : List α) (acc : List D), acc.length + xs.length ≤ 100000 → (∀ x ∈ xs, ∃ e1, g.f (f x) env = some e1 ∧ (∀ K : Bool → Mem → Prop, K (p x) M → Go (t e1 M) K) ∧ ∀ K : D → Mem → Prop, K (h x) M → Go (el e1 M) K) → Q (acc ++ (xs.filter p).map h) M → Go (compL g t el chk env (xs.map f) acc M) Q
  | [], acc, _, _, q => cp_nil hc (by simpa using q)
  | x :: xs, acc, hl, he, q => by
    obtain ⟨e1, h1, h2, h3⟩ := he x List.mem_cons_self
    rw [List.length_cons] at hl
    refine cp_cons hc h1 (h2 _ ?_)
    cases hp : p x with
    | true =>
      rw [if_pos rfl]
      refine h3 _ ⟨by omega, ?_⟩
      refine cp_filter hc xs (acc ++ [h x]) (by rw [List.length_append, List.length_singleton]; omega) (fun y hy => he y (List.mem_cons_of_mem _ hy)) ?_
      rw [List.filter_cons_of_pos hp, List.map_cons] at q
      rw [List.append_assoc]
      exact q
    | false =>
      rw [if_neg (by decide)]
      refine cp_filter hc xs acc (by omega) (fun y hy => he y (List.mem_cons_of_mem _ hy)) ?_
      rw [List.filter_cons_of_neg (by rw [hp]; decide)] at q
      exact q
theorem go_setItemT {a b o : ME} {env : Ly.Env} {M : Mem} {S : Ly.Env → Mem → Prop} {R : D → Mem → Prop} : GoS (mSetItemT a b o env M) S R = Go (a env M) fun v M1 => Go (b env M1) fun d M2 => Go (o env M2) fun i M3 => ∃ M4, setMT M3 d i v = some M4 ∧ S env M4 := by
  unfold mSetItemT
  rw [go_bindS]
  congr 1
  funext v M1
  rw [go_bindS]
  congr 1
  funext d M2
  rw [go_bindS]
  congr 1
  funext i M3
  cases setMT M3 d i v <;> simp [GoS]
abbrev kz (z : Row) : List Key := z.map (Sum.inl : Int → Key)
theorem kz_inj {z w : Row} : kz z = kz w ↔ z = w := by
  constructor
  · intro h
    exact (List.map_inj_right fun a b e => Sum.inl.inj e).mp h
  · intro h
    rw [h]
def cellZ (d : Sm) : Cell := .dct (d.map fun p => kz p.1) (d.map fun p => .int p.2)
theorem atZ_get (z : Row) : ∀ d : Sm, atZ (d.map fun p => kz p.1) (d.map fun p => D.int p.2) (kz z) = (d.find? fun p => decide (p.1 = z)).map fun p => D.int p.2
  | [] => rfl
  | p :: d => by
    have ih := atZ_get z d
    unfold atZ at ih ⊢
    rw [List.map_cons, List.map_cons, List.zip_cons_cons, List.find?_cons, List.find?_cons]
    by_cases h : p.1 = z
    · have h1 : decide (kz p.1 = kz z) = true := decide_eq_true (kz_inj.mpr h)
      rw [decide_eq_true h]
      dsimp only
      rw [h1]
      rfl
    · have h1 : decide (kz p.1 = kz z) = false := decide_eq_false fun e => h (kz_inj.mp e)
      rw [decide_eq_false h]
      dsimp only
      rw [h1]
      exact ih
theorem getD_get (z : Row) (d : Sm) : (atZ (d.map fun p => kz p.1) (d.map fun p => D.int p.2) (kz z)).getD (.int 0) = .int (get d z) := by
  rw [atZ_get]
  unfold get
  cases d.find? (fun p => decide (p.1 = z)) <;> rfl
theorem at_mem {z : Row} {d : Sm} (h : z ∈ d.map (·.1)) : atZ (d.map fun p => kz p.1) (d.map fun p => D.int p.2) (kz z) = some (.int (get d z)) := by
  rw [atZ_get]
  unfold get
  cases e : d.find? (fun p => decide (p.1 = z)) with
  | some p => rfl
  | none =>
    rw [List.find?_eq_none] at e
    obtain ⟨p, hp, rfl⟩ := List.mem_map.mp h
    exact absurd (decide_eq_true rfl) (e p hp)
theorem hasZ_any (z : Row) : ∀ d : Sm, hasZ (d.map fun p => kz p.1) (kz z) = d.any fun p => decide (p.1 = z)
  | [] => rfl
  | p :: d => by
    have ih := hasZ_any z d
    unfold hasZ at ih ⊢
    rw [List.map_cons, List.any_cons, List.any_cons, ih]
    congr 1
    by_cases h : p.1 = z
    · rw [decide_eq_true h, decide_eq_true (kz_inj.mpr h)]
    · rw [decide_eq_false h, decide_eq_false fun e => h (kz_inj.mp e)]
theorem cell_put (z : Row) (n : Int) (d : Sm) : Cell.dct (keysZ (d.map fun p => kz p.1) (kz z)) (putZ (d.map fun p => kz p.1) (d.map fun p => D.int p.2) (kz z) (.int n)) = cellZ (put d z n) := by
  unfold cellZ keysZ putZ put
  rw [hasZ_any]
  cases d.any fun p => decide (p.1 = z) with
  | true =>
    rw [if_pos rfl, if_pos rfl, if_pos rfl, List.map_map, List.map_map]
    congr 1
    · apply List.map_congr_left
      intro p _
      show kz p.1 = kz (if p.1 = z then (p.1, n) else p).1
      split <;> rfl
    · induction d with
      | nil => rfl
      | cons p d ih =>
        rw [List.map_cons, List.map_cons, List.zip_cons_cons, List.map_cons, List.map_cons, ih]
        congr 1
        show (if kz p.1 = kz z then D.int n else D.int p.2) = D.int (if p.1 = z then (p.1, n) else p).2
        by_cases h : p.1 = z
        · rw [if_pos h, if_pos (kz_inj.mpr h)]
        · rw [if_neg h, if_neg fun e => h (kz_inj.mp e)]
  | false =>
    rw [if_neg (by decide), if_neg (by decide), if_neg (by decide), List.map_append, List.map_append]
    rfl
theorem keyT_tz (z : Row) : keyT (tz z) = some (kz z) := keysT_tz z
theorem dct_cell {M : Mem} {n : Nat} {d : Sm} (h : M[n]? = some (cellZ d)) : dctOf (.ref n) M = some (d.map (fun p => kz p.1), d.map fun p => .int p.2) := dctOf_c h
theorem setMT_put {M : Mem} {n : Nat} {d : Sm} {z : Row} {v : Int} (h : M[n]? = some (cellZ d)) (hl : d.length + 1 ≤ 100000) : setMT M (.ref n) (tz z) (.int v) = some (M.set n (cellZ (put d z v))) := by
  unfold setMT
  have h' : M[n]? = some (Cell.dct (d.map fun p => kz p.1) (d.map fun p => .int p.2)) := h
  simp only [h', keyT_tz]
  rw [if_pos (show szOk ((d.map fun p => kz p.1).length + 1) = true from decide_eq_true (by rw [List.length_map]; exact hl)), cell_put]
theorem sort_cell {M : Mem} {n : Nat} {d : Sm} {Q : D → Mem → Prop} (h : M[n]? = some (cellZ d)) (hs : (d.map (·.1)).length ≤ 1 ∨ ∀ z ∈ d.map (·.1), z ≠ []) (q : Q (.lst (((d.map (·.1)).mergeSort leZ).map tz)) M) : Go (fSortT [.ref n] M) Q := by
  have e : dctOf (.ref n) M = some ((d.map (·.1)).map (fun z => z.map (Sum.inl : Int → Key)), d.map fun p => D.int p.2) := by
    rw [dct_cell h, List.map_map]
    rfl
  rw [go_sortT e]
  exact ⟨hs, q⟩
abbrev sD (s : Sm) : D := .ftu (s.map tp)
theorem low_tz (k : Nat) : ∀ z : Row, lowL k (z.map D.int) = true
  | [] => rfl
  | x :: z => by
    show (D.low k (.int x) && lowL k (z.map D.int)) = true
    rw [low_tz k z]
    rfl
theorem low_tp (k : Nat) (p : Row × Int) : D.low k (tp p) = true := by
  show (D.low k (tz p.1) && (D.low k (.int p.2) && lowL k [])) = true
  have : D.low k (tz p.1) = true := low_tz k p.1
  rw [this]
  rfl
theorem low_sL (k : Nat) : ∀ s : Sm, lowL k (s.map tp) = true
  | [] => rfl
  | p :: s => by
    show (D.low k (tp p) && lowL k (s.map tp)) = true
    rw [low_tp, low_sL k s]
    rfl
theorem low_sD (k : Nat) (s : Sm) : D.low k (sD s) = true := low_sL k s
theorem frz_sD {k n : Nat} {M : Mem} {s : Sm} : frzD k M (n + 1) (sD s) = some (sD s) := frz_low (low_sD k s)
section
variable {Q : D → Mem → Prop} {M : Mem} {n : Nat} {d s t : Sm} {k : Nat}
theorem put_together_ok (h : M[n]? = some (cellZ d)) (hs : (d.map (·.1)).length ≤ 1 ∨ ∀ z ∈ d.map (·.1), z ≠ []) (hl : d.length ≤ 100000) (q : Q (sD (ptg d)) M) : Go (f_put_together [.ref n] M) Q := by
  unfold f_put_together
  rw [go_callD]
  show GoS (m_put_together [some (.ref n), none] M) _ _
  unfold m_put_together
  simp only [go_bin, go_un, go_var, go_c, go_test, go_andT, go_orT, go_notT, go_yes, go_andV, go_if, go_nil, go_cons, go_tup, go_lst, go_lstC, go_cb, go_call, go_callW, go_meth, go_noPart, go_part, go_sl, go_get, go_retN, go_lc, go_dc, go_iter, go_enum, go_rng, go_rng1, go_rng2, go_rng3, go_disp, go_pnil, go_pcons, go_bdT, go_bdF, go_ok, go_nx, go_rt, go_addI, go_addS, go_addT, go_addL, go_subI, go_mulI, go_mulL, go_modI, go_fdivI, go_powI, go_ltI, go_leI, go_gtI, go_geI, go_eqI, go_eqS, go_neI, go_neS, go_ixF, go_ixT, go_ixS, go_ixD, go_slT, go_slF, go_slR, go_slS, go_revF, go_revCF, go_revAT, go_revAL, List.getElem?_cons_zero, List.getElem?_cons_succ, List.set_cons_zero, List.set_cons_succ, List.length_cons, List.length_nil, D.int.injEq, D.bl.injEq, D.str.injEq, Option.some.injEq, exists_eq_left', go_listF, go_listT, go_tupleF, go_tupleT, go_lenF, go_lenT, go_lenS, go_isiS, go_isiI, go_intI, go_intB, go_maxI, it_lst, it_tupD, it_strD, en_lst, en_tup, fr_gN, wipeD, go_inTab, go_notInTab, go_tab, go_lc2, go_par2, go_par3, go_asg, go_isB, go_tell, go_kget, go_notB, go_slStep, go_slStepT, go_dictZip, go_setEq, go_ret]
  refine sort_cell h hs ?_
  refine ⟨_, rfl, ?_⟩
  refine cp_filter (p := fun z => decide (get d z ≠ 0)) (h := fun z => tp (z, get d z)) trivial _ [] (by rw [List.length_nil, List.length_mergeSort, List.length_map]; omega) (fun z hz => ?_) ?_
  · have hz' : z ∈ d.map (·.1) := (List.mergeSort_perm _ _).mem_iff.mp hz
    refine ⟨_, rfl, fun K hK => ?_, fun K hK => ?_⟩
    · simp only [go_bin, go_un, go_var, go_c, go_test, go_andT, go_orT, go_notT, go_yes, go_andV, go_if, go_nil, go_cons, go_tup, go_lst, go_lstC, go_cb, go_call, go_callW, go_meth, go_noPart, go_part, go_sl, go_get, go_retN, go_lc, go_dc, go_iter, go_enum, go_rng, go_rng1, go_rng2, go_rng3, go_disp, go_pnil, go_pcons, go_bdT, go_bdF, go_ok, go_nx, go_rt, go_addI, go_addS, go_addT, go_addL, go_subI, go_mulI, go_mulL, go_modI, go_fdivI, go_powI, go_ltI, go_leI, go_gtI, go_geI, go_eqI, go_eqS, go_neI, go_neS, go_ixF, go_ixT, go_ixS, go_ixD, go_slT, go_slF, go_slR, go_slS, go_revF, go_revCF, go_revAT, go_revAL, List.getElem?_cons_zero, List.getElem?_cons_succ, List.set_cons_zero, List.set_cons_succ, List.length_cons, List.length_nil, D.int.injEq, D.bl.injEq, D.str.injEq, Option.some.injEq, exists_eq_left', go_listF, go_listT, go_tupleF, go_tupleT, go_lenF, go_lenT, go_lenS, go_isiS, go_isiI, go_intI, go_intB, go_maxI, it_lst, it_tupD, it_strD, en_lst, en_tup, fr_gN, wipeD, go_inTab, go_notInTab, go_tab, go_lc2, go_par2, go_par3, go_asg, go_isB, go_tell, go_kget, go_notB, go_slStep, go_slStepT, go_dictZip, go_setEq, List.set_cons_zero, List.set_cons_succ, go_ixT' h (keyT_tz z), at_mem hz']
      rw [decide_not] at hK
      exact hK
    · simp only [go_bin, go_un, go_var, go_c, go_test, go_andT, go_orT, go_notT, go_yes, go_andV, go_if, go_nil, go_cons, go_tup, go_lst, go_lstC, go_cb, go_call, go_callW, go_meth, go_noPart, go_part, go_sl, go_get, go_retN, go_lc, go_dc, go_iter, go_enum, go_rng, go_rng1, go_rng2, go_rng3, go_disp, go_pnil, go_pcons, go_bdT, go_bdF, go_ok, go_nx, go_rt, go_addI, go_addS, go_addT, go_addL, go_subI, go_mulI, go_mulL, go_modI, go_fdivI, go_powI, go_ltI, go_leI, go_gtI, go_geI, go_eqI, go_eqS, go_neI, go_neS, go_ixF, go_ixT, go_ixS, go_ixD, go_slT, go_slF, go_slR, go_slS, go_revF, go_revCF, go_revAT, go_revAL, List.getElem?_cons_zero, List.getElem?_cons_succ, List.set_cons_zero, List.set_cons_succ, List.length_cons, List.length_nil, D.int.injEq, D.bl.injEq, D.str.injEq, Option.some.injEq, exists_eq_left', go_listF, go_listT, go_tupleF, go_tupleT, go_lenF, go_lenT, go_lenS, go_isiS, go_isiI, go_intI, go_intB, go_maxI, it_lst, it_tupD, it_strD, en_lst, en_tup, fr_gN, wipeD, go_inTab, go_notInTab, go_tab, go_lc2, go_par2, go_par3, go_asg, go_isB, go_tell, go_kget, go_notB, go_slStep, go_slStepT, go_dictZip, go_setEq, List.set_cons_zero, List.set_cons_succ, go_ixT' h (keyT_tz z), at_mem hz']
      exact ⟨by decide, hK⟩
  · rw [List.nil_append, go_tupleFF]
    have e : ((((d.map (·.1)).mergeSort leZ).filter fun z => decide (get d z ≠ 0)).map fun z => tp (z, get d z)) = (ptg d).map tp := by
      unfold ptg
      rw [List.filter_map, List.map_map]
      rfl
    rw [e]
    exact go_fin_same frz_sD q
end
end Su
namespace Su
open PySem PySem.Spec PyProof.Rows L2 Ly
theorem it_ftu {ds : List D} {M : Mem} : itemsOf (.ftu ds) M = some ⟨ds, fun _ => True⟩ := id rfl
theorem pairsT_tp : ∀ s : Sm, pairsT (s.map tp) = some (s.map (fun p => kz p.1), s.map fun p => .int p.2)
  | [] => rfl
  | p :: s => by
    show (keyT (tz p.1)).bind (fun key => (pairsT (s.map tp)).map fun r => (key :: r.1, D.int p.2 :: r.2)) = _
    rw [keyT_tz, pairsT_tp s]
    rfl
theorem keys_sortable {k : Nat} {d : Sm} (hn : (d.map (·.1)).Nodup) (hr : ∀ w ∈ d.map (·.1), w.length = k) : (d.map (·.1)).length ≤ 1 ∨ ∀ z ∈ d.map (·.1), z ≠ [] := by
  cases k with
  | zero =>
    left
    generalize d.map (·.1) = l at hn hr
    cases l with
    | nil => simp
    | cons a l =>
      cases l with
      | nil => simp
      | cons b l =>
        have ha := List.length_eq_zero_iff.mp (hr a (by simp))
        have hb := List.length_eq_zero_iff.mp (hr b (by simp))
        rw [ha, hb] at hn
        exact absurd hn (by simp)
  | succ k =>
    right
    intro z hz e
    have := hr z hz
    rw [e] at this
    cases this
theorem SumOk.rows {k : Nat} {s : Sm} (h : SumOk k s) : ∀ w ∈ s.map (·.1), w.length = k ∧ ∀ i ∈ w, 0 ≤ i := fun w hw => by
  obtain ⟨p, hp, rfl⟩ := List.mem_map.mp hw
  exact h.row p hp
section
variable {Q : D → Mem → Prop} {M : Mem} {n : Int} {d s t : Sm} {k : Nat}
theorem scaled_ok (hn : n ≠ 0) (hm : ∀ p ∈ s, CMulW p.2 n) (hl : s.length ≤ 100000) (q : Q (sD (sc n s)) M) : Go (f_scaled [sD s, .int n] M) Q := by
  unfold f_scaled
  rw [go_callD]
  show GoS (m_scaled [some (sD s), some (.int n), none, none] M) _ _
  unfold m_scaled
  simp only [go_bin, go_un, go_var, go_c, go_test, go_andT, go_orT, go_notT, go_yes, go_andV, go_if, go_nil, go_cons, go_tup, go_lst, go_lstC, go_cb, go_call, go_callW, go_meth, go_noPart, go_part, go_sl, go_get, go_retN, go_lc, go_dc, go_iter, go_enum, go_rng, go_rng1, go_rng2, go_rng3, go_disp, go_pnil, go_pcons, go_bdT, go_bdF, go_ok, go_nx, go_rt, go_addI, go_addS, go_addT, go_addL, go_subI, go_mulI, go_mulL, go_modI, go_fdivI, go_powI, go_ltI, go_leI, go_gtI, go_geI, go_eqI, go_eqS, go_neI, go_neS, go_ixF, go_ixT, go_ixS, go_ixD, go_slT, go_slF, go_slR, go_slS, go_revF, go_revCF, go_revAT, go_revAL, List.getElem?_cons_zero, List.getElem?_cons_succ, List.set_cons_zero, List.set_cons_succ, List.length_cons, List.length_nil, D.int.injEq, D.bl.injEq, D.str.injEq, Option.some.injEq, exists_eq_left', go_listF, go_listT, go_tupleF, go_tupleT, go_lenF, go_lenT, go_lenS, go_isiS, go_isiI, go_intI, go_intB, go_maxI, it_lst, it_tupD, it_strD, en_lst, en_tup, fr_gN, wipeD, go_inTab, go_notInTab, go_tab, go_lc2, go_par2, go_par3, go_asg, go_isB, go_tell, go_kget, go_notB, go_slStep, go_slStepT, go_dictZip, go_setEq, go_ret, it_ftu]
  refine cp_filter (p := fun _ => true) (h := fun p : Row × Int => tp (p.1, p.2 * n)) trivial s [] (by simpa using hl) (fun p hp => ?_) ?_
  · refine ⟨_, rfl, fun K hK => ?_, fun K hK => ?_⟩
    · simp only [go_bin, go_un, go_var, go_c, go_test, go_andT, go_orT, go_notT, go_yes, go_andV, go_if, go_nil, go_cons, go_tup, go_lst, go_lstC, go_cb, go_call, go_callW, go_meth, go_noPart, go_part, go_sl, go_get, go_retN, go_lc, go_dc, go_iter, go_enum, go_rng, go_rng1, go_rng2, go_rng3, go_disp, go_pnil, go_pcons, go_bdT, go_bdF, go_ok, go_nx, go_rt, go_addI, go_addS, go_addT, go_addL, go_subI, go_mulI, go_mulL, go_modI, go_fdivI, go_powI, go_ltI, go_leI, go_gtI, go_geI, go_eqI, go_eqS, go_neI, go_neS, go_ixF, go_ixT, go_ixS, go_ixD, go_slT, go_slF, go_slR, go_slS, go_revF, go_revCF, go_revAT, go_revAL, List.getElem?_cons_zero, List.getElem?_cons_succ, List.set_cons_zero, List.set_cons_succ, List.length_cons, List.length_nil, D.int.injEq, D.bl.injEq, D.str.injEq, Option.some.injEq, exists_eq_left', go_listF, go_listT, go_tupleF, go_tupleT, go_lenF, go_lenT, go_lenS, go_isiS, go_isiI, go_intI, go_intB, go_maxI, it_lst, it_tupD, it_strD, en_lst, en_tup, fr_gN, wipeD, go_inTab, go_notInTab, go_tab, go_lc2, go_par2, go_par3, go_asg, go_isB, go_tell, go_kget, go_notB, go_slStep, go_slStepT, go_dictZip, go_setEq, List.set_cons_zero, List.set_cons_succ]
      rw [show decide (n = 0) = false from decide_eq_false hn]
      exact hK
    · simp only [go_bin, go_un, go_var, go_c, go_test, go_andT, go_orT, go_notT, go_yes, go_andV, go_if, go_nil, go_cons, go_tup, go_lst, go_lstC, go_cb, go_call, go_callW, go_meth, go_noPart, go_part, go_sl, go_get, go_retN, go_lc, go_dc, go_iter, go_enum, go_rng, go_rng1, go_rng2, go_rng3, go_disp, go_pnil, go_pcons, go_bdT, go_bdF, go_ok, go_nx, go_rt, go_addI, go_addS, go_addT, go_addL, go_subI, go_mulI, go_mulL, go_modI, go_fdivI, go_powI, go_ltI, go_leI, go_gtI, go_geI, go_eqI, go_eqS, go_neI, go_neS, go_ixF, go_ixT, go_ixS, go_ixD, go_slT, go_slF, go_slR, go_slS, go_revF, go_revCF, go_revAT, go_revAL, List.getElem?_cons_zero, List.getElem?_cons_succ, List.set_cons_zero, List.set_cons_succ, List.length_cons, List.length_nil, D.int.injEq, D.bl.injEq, D.str.injEq, Option.some.injEq, exists_eq_left', go_listF, go_listT, go_tupleF, go_tupleT, go_lenF, go_lenT, go_lenS, go_isiS, go_isiI, go_intI, go_intB, go_maxI, it_lst, it_tupD, it_strD, en_lst, en_tup, fr_gN, wipeD, go_inTab, go_notInTab, go_tab, go_lc2, go_par2, go_par3, go_asg, go_isB, go_tell, go_kget, go_notB, go_slStep, go_slStepT, go_dictZip, go_setEq, List.set_cons_zero, List.set_cons_succ, go_mulUI]
      exact ⟨hm p hp, by decide, hK⟩
  · rw [List.nil_append, go_tupleFF]
    have e : ((s.filter fun _ => true).map fun p : Row × Int => tp (p.1, p.2 * n)) = (sc n s).map tp := by
      rw [List.filter_eq_self.mpr fun _ _ => rfl]
      unfold sc
      rw [List.map_map]
      rfl
    rw [e]
    exact go_fin_same frz_sD q
theorem set_last {N : Mem} {c c' : Cell} : (N ++ [c]).set N.length c' = N ++ [c'] := by
  rw [List.set_append_right _ _ (Nat.le_refl _), Nat.sub_self]
  rfl
theorem get_last {N : Mem} {c : Cell} : (N ++ [c])[N.length]? = some c := by
  rw [List.getElem?_append_right (Nat.le_refl _), Nat.sub_self]
  rfl
theorem added_ok (h1 : SumOk k s) (h2 : SumOk k t) (hl : s.length + t.length + 1 ≤ 100000) (q : Q (sD (ptg (addS s t))) M) : Go (f_added [sD s, sD t] M) Q := by
  unfold f_added
  rw [go_callD]
  show GoS (m_added [some (sD s), some (sD t), none, none, none] M) _ _
  unfold m_added
  rw [go_seq, go_set]
  simp only [go_bin, go_un, go_var, go_c, go_test, go_andT, go_orT, go_notT, go_yes, go_andV, go_if, go_nil, go_cons, go_tup, go_lst, go_lstC, go_cb, go_call, go_callW, go_meth, go_noPart, go_part, go_sl, go_get, go_retN, go_lc, go_dc, go_iter, go_enum, go_rng, go_rng1, go_rng2, go_rng3, go_disp, go_pnil, go_pcons, go_bdT, go_bdF, go_ok, go_nx, go_rt, go_addI, go_addS, go_addT, go_addL, go_subI, go_mulI, go_mulL, go_modI, go_fdivI, go_powI, go_ltI, go_leI, go_gtI, go_geI, go_eqI, go_eqS, go_neI, go_neS, go_ixF, go_ixT, go_ixS, go_ixD, go_slT, go_slF, go_slR, go_slS, go_revF, go_revCF, go_revAT, go_revAL, List.getElem?_cons_zero, List.getElem?_cons_succ, List.set_cons_zero, List.set_cons_succ, List.length_cons, List.length_nil, D.int.injEq, D.bl.injEq, D.str.injEq, Option.some.injEq, exists_eq_left', go_listF, go_listT, go_tupleF, go_tupleT, go_lenF, go_lenT, go_lenS, go_isiS, go_isiI, go_intI, go_intB, go_maxI, it_lst, it_tupD, it_strD, en_lst, en_tup, fr_gN, wipeD, go_inTab, go_notInTab, go_tab, go_lc2, go_par2, go_par3, go_asg, go_isB, go_tell, go_kget, go_notB, go_slStep, go_slStepT, go_dictZip, go_setEq]
  rw [go_dictT (pairsT_tp s)]
  refine ⟨?_, ?_⟩
  · have := h1.nodup
    rw [show (s.map fun p => kz p.1) = (s.map (·.1)).map kz by rw [List.map_map]; rfl]
    show List.Pairwise _ _
    rw [List.pairwise_map]
    exact this.imp fun hne e => hne (kz_inj.mp e)
  rw [go_seq, go_for]
  simp only [go_bin, go_un, go_var, go_c, go_test, go_andT, go_orT, go_notT, go_yes, go_andV, go_if, go_nil, go_cons, go_tup, go_lst, go_lstC, go_cb, go_call, go_callW, go_meth, go_noPart, go_part, go_sl, go_get, go_retN, go_lc, go_dc, go_iter, go_enum, go_rng, go_rng1, go_rng2, go_rng3, go_disp, go_pnil, go_pcons, go_bdT, go_bdF, go_ok, go_nx, go_rt, go_addI, go_addS, go_addT, go_addL, go_subI, go_mulI, go_mulL, go_modI, go_fdivI, go_powI, go_ltI, go_leI, go_gtI, go_geI, go_eqI, go_eqS, go_neI, go_neS, go_ixF, go_ixT, go_ixS, go_ixD, go_slT, go_slF, go_slR, go_slS, go_revF, go_revCF, go_revAT, go_revAL, List.getElem?_cons_zero, List.getElem?_cons_succ, List.set_cons_zero, List.set_cons_succ, List.length_cons, List.length_nil, D.int.injEq, D.bl.injEq, D.str.injEq, Option.some.injEq, exists_eq_left', go_listF, go_listT, go_tupleF, go_tupleT, go_lenF, go_lenT, go_lenS, go_isiS, go_isiI, go_intI, go_intB, go_maxI, it_lst, it_tupD, it_strD, en_lst, en_tup, fr_gN, wipeD, go_inTab, go_notInTab, go_tab, go_lc2, go_par2, go_par3, go_asg, go_isB, go_tell, go_kget, go_notB, go_slStep, go_slStepT, go_dictZip, go_setEq, it_ftu, List.set_cons_zero, List.set_cons_succ]
  refine go_loop (fun rem env M' => ∃ acc done, rem = (List.map tp (t.drop done.length)) ∧ t = done ++ t.drop done.length ∧ acc = addS s done ∧ M' = M ++ [cellZ acc] ∧ ∃ a b, env = [some (sD s), some (sD t), some (.ref M.length), a, b]) ?_ ?_ _ _ _ ⟨s, [], by simp, by simp, rfl, rfl, none, none, rfl⟩
  · rintro d0 rem env M' ⟨acc, done, hr, ht, rfl, rfl, a, b, rfl⟩
    obtain ⟨p, r, hp⟩ : ∃ p r, t.drop done.length = p :: r := by
      cases e : t.drop done.length with
      | nil => rw [e] at hr; cases hr
      | cons p r => exact ⟨p, r, rfl⟩
    rw [hp] at hr ht
    cases hr
    have hdone : ∀ p ∈ done, p ∈ t := fun p hp => by rw [ht]; exact List.mem_append_left _ hp
    have a4 := (addS_ok [] (P := fun _ => True) done s h1.nodup (fun _ _ => trivial) fun _ _ => trivial).2.2.2
    have hdl : done.length ≤ t.length := by
      rw [ht, List.length_append]
      omega
    refine ⟨trivial, _, rfl, ?_⟩
    rw [go_setItemT]
    simp only [go_bin, go_un, go_var, go_c, go_test, go_andT, go_orT, go_notT, go_yes, go_andV, go_if, go_nil, go_cons, go_tup, go_lst, go_lstC, go_cb, go_call, go_callW, go_meth, go_noPart, go_part, go_sl, go_get, go_retN, go_lc, go_dc, go_iter, go_enum, go_rng, go_rng1, go_rng2, go_rng3, go_disp, go_pnil, go_pcons, go_bdT, go_bdF, go_ok, go_nx, go_rt, go_addI, go_addS, go_addT, go_addL, go_subI, go_mulI, go_mulL, go_modI, go_fdivI, go_powI, go_ltI, go_leI, go_gtI, go_geI, go_eqI, go_eqS, go_neI, go_neS, go_ixF, go_ixT, go_ixS, go_ixD, go_slT, go_slF, go_slR, go_slS, go_revF, go_revCF, go_revAT, go_revAL, List.getElem?_cons_zero, List.getElem?_cons_succ, List.set_cons_zero, List.set_cons_succ, List.length_cons, List.length_nil, D.int.injEq, D.bl.injEq, D.str.injEq, Option.some.injEq, exists_eq_left', go_listF, go_listT, go_tupleF, go_tupleT, go_lenF, go_lenT, go_lenS, go_isiS, go_isiI, go_intI, go_intB, go_maxI, it_lst, it_tupD, it_strD, en_lst, en_tup, fr_gN, wipeD, go_inTab, go_notInTab, go_tab, go_lc2, go_par2, go_par3, go_asg, go_isB, go_tell, go_kget, go_notB, go_slStep, go_slStepT, go_dictZip, go_setEq, List.set_cons_zero, List.set_cons_succ, go_getT, dct_cell get_last, Option.isSome_some, true_and]
    rw [go_opGetT (show (M ++ [cellZ (addS s done)])[M.length]? = some (Cell.dct ((addS s done).map fun p => kz p.1) ((addS s done).map fun p => D.int p.2)) from get_last) (keyT_tz p.1), getD_get, go_addI]
    refine ⟨_, setMT_put get_last (by omega), addS s (done ++ [p]), done ++ [p], ?_, ?_, rfl, ?_, _, _, rfl⟩
    · have : t.drop (done ++ [p]).length = r := by
        rw [List.length_append, List.length_singleton, ← List.drop_drop, hp]
        rfl
      rw [this]
    · have : t.drop (done ++ [p]).length = r := by
        rw [List.length_append, List.length_singleton, ← List.drop_drop, hp]
        rfl
      rw [this, List.append_assoc]
      exact ht
    · rw [set_last]
      unfold addS
      rw [List.foldl_append]
      rfl
  · rintro env M' ⟨acc, done, hr, ht, rfl, rfl, a, b, rfl⟩
    have e0 : t.drop done.length = [] := by
      cases e : t.drop done.length with
      | nil => rfl
      | cons p r => rw [e] at hr; cases hr
    rw [e0, List.append_nil] at ht
    subst ht
    obtain ⟨a1, a2, a3, a4⟩ := addS_ok [] (P := fun w => w.length = k ∧ ∀ i ∈ w, 0 ≤ i) t s h1.nodup h1.rows (fun p hp => h2.row p hp)
    refine ⟨trivial, ?_⟩
    simp only [go_bin, go_un, go_var, go_c, go_test, go_andT, go_orT, go_notT, go_yes, go_andV, go_if, go_nil, go_cons, go_tup, go_lst, go_lstC, go_cb, go_call, go_callW, go_meth, go_noPart, go_part, go_sl, go_get, go_retN, go_lc, go_dc, go_iter, go_enum, go_rng, go_rng1, go_rng2, go_rng3, go_disp, go_pnil, go_pcons, go_bdT, go_bdF, go_ok, go_nx, go_rt, go_addI, go_addS, go_addT, go_addL, go_subI, go_mulI, go_mulL, go_modI, go_fdivI, go_powI, go_ltI, go_leI, go_gtI, go_geI, go_eqI, go_eqS, go_neI, go_neS, go_ixF, go_ixT, go_ixS, go_ixD, go_slT, go_slF, go_slR, go_slS, go_revF, go_revCF, go_revAT, go_revAL, List.getElem?_cons_zero, List.getElem?_cons_succ, List.set_cons_zero, List.set_cons_succ, List.length_cons, List.length_nil, D.int.injEq, D.bl.injEq, D.str.injEq, Option.some.injEq, exists_eq_left', go_listF, go_listT, go_tupleF, go_tupleT, go_lenF, go_lenT, go_lenS, go_isiS, go_isiI, go_intI, go_intB, go_maxI, it_lst, it_tupD, it_strD, en_lst, en_tup, fr_gN, wipeD, go_inTab, go_notInTab, go_tab, go_lc2, go_par2, go_par3, go_asg, go_isB, go_tell, go_kget, go_notB, go_slStep, go_slStepT, go_dictZip, go_setEq, go_ret, true_and]
    refine put_together_ok get_last (keys_sortable a1 fun w hw => (a2 w hw).1) (by omega) ?_
    exact go_fin_app frz_sD q
end
end Su
namespace Su
open PySem PySem.Spec PyProof.Rows L2 Ly
section
variable {g : GD} {s : MS} {chk : Mem → Prop} {env e1 : Ly.Env} {S : Ly.Env → Mem → Prop} {R : D → Mem → Prop} {d : D} {ds : List D} {M : Mem}
theorem lp_nil (h1 : chk M) (q : S env M) : GoS (loopS g s chk [] env M) S R := by
  unfold loopS
  rw [if_pos h1]
  exact q
theorem lp_cons (h1 : chk M) (h2 : g.f d env = some e1) (h3 : GoS (s e1 M) (fun e2 M2 => GoS (loopS g s chk ds e2 M2) S R) R) : GoS (loopS g s chk (d :: ds) env M) S R := by
  unfold loopS
  rw [if_pos h1, h2]
  show GoS (ResS.loop (s e1 M) fun e1 M1 => loopS g s chk ds e1 M1) S R
  cases q : s e1 M with
  | nx e M =>
    rw [q] at h3
    exact h3
  | rt d M =>
    rw [q] at h3
    exact h3
  | _ =>
    rw [q] at h3
    exact h3.elim
theorem loop_fold {α β : Type} {f : α → D} {st : β → Ly.Env → Mem → Prop} {up : β → α → β} (hc : ∀ M, chk M) : ∀ (xs : List α) (b : β) (env : Ly.Env) (M : Mem),
    (∀ (pre : List α) (x : α) (post : List α), xs = pre ++ x :: post → ∀ env M, st (pre.foldl up b) env M → ∃ e1, g.f (f x) env = some e1 ∧ GoS (s e1 M) (fun e2 M2 => st (up (pre.foldl up b) x) e2 M2) R) →
    st b env M → (∀ env M, st (xs.foldl up b) env M → S env M) → GoS (loopS g s chk (xs.map f) env M) S R
  | [], b, env, M, _, h0, q => lp_nil (hc M) (q _ _ h0)
  | x :: xs, b, env, M, step, h0, q => by
    obtain ⟨e1, h1, h2⟩ := step [] x xs rfl env M h0
    refine lp_cons (hc M) h1 (h2.imp (fun e2 M2 h3 => ?_) fun _ _ h => h)
    exact loop_fold hc xs (up b x) e2 M2 (fun pre y post e env M h => step (x :: pre) y post (by rw [e]; rfl) env M h) h3 q
end
theorem CMulW.neg1 {n : Int} (h : n.natAbs < 2 ^ 200) : CMulW n (-1) := cmulW h (by decide)
section
variable {Q : D → Mem → Prop} {M : Mem} {n : Int} {d s t : Sm} {k : Nat}
theorem sc_ok {n : Int} (hn : n ≠ 0) (h : SumOk k s) : SumOk k (sc n s) := by
  refine ⟨fun p hp => ?_, fun p hp => ?_, ?_⟩
  · obtain ⟨q, hq, rfl⟩ := List.mem_map.mp hp
    exact h.row q hq
  · obtain ⟨q, hq, rfl⟩ := List.mem_map.mp hp
    exact Int.mul_ne_zero (h.num q hq) hn
  · show List.Pairwise _ _
    unfold sc
    rw [List.pairwise_map]
    exact h.rise
theorem sc_len {n : Int} : (sc n s).length = s.length := List.length_map ..
theorem lessened_ok (h1 : SumOk k s) (h2 : SumOk k t) (hm : ∀ p ∈ t, p.2.natAbs < 2 ^ 200) (hl : s.length + t.length + 1 ≤ 100000) (q : Q (sD (ptg (addS s (sc (-1) t)))) M) : Go (f_lessened [sD s, sD t] M) Q := by
  unfold f_lessened
  rw [go_callD]
  show GoS (m_lessened [some (sD s), some (sD t)] M) _ _
  unfold m_lessened
  simp only [go_bin, go_un, go_var, go_c, go_test, go_andT, go_orT, go_notT, go_yes, go_andV, go_if, go_nil, go_cons, go_tup, go_lst, go_lstC, go_cb, go_call, go_callW, go_meth, go_noPart, go_part, go_sl, go_get, go_retN, go_lc, go_dc, go_iter, go_enum, go_rng, go_rng1, go_rng2, go_rng3, go_disp, go_pnil, go_pcons, go_bdT, go_bdF, go_ok, go_nx, go_rt, go_addI, go_addS, go_addT, go_addL, go_subI, go_mulI, go_mulL, go_modI, go_fdivI, go_powI, go_ltI, go_leI, go_gtI, go_geI, go_eqI, go_eqS, go_neI, go_neS, go_ixF, go_ixT, go_ixS, go_ixD, go_slT, go_slF, go_slR, go_slS, go_revF, go_revCF, go_revAT, go_revAL, List.getElem?_cons_zero, List.getElem?_cons_succ, List.set_cons_zero, List.set_cons_succ, List.length_cons, List.length_nil, D.int.injEq, D.bl.injEq, D.str.injEq, Option.some.injEq, exists_eq_left', go_listF, go_listT, go_tupleF, go_tupleT, go_lenF, go_lenT, go_lenS, go_isiS, go_isiI, go_intI, go_intB, go_maxI, it_lst, it_tupD, it_strD, en_lst, en_tup, fr_gN, wipeD, go_inTab, go_notInTab, go_tab, go_lc2, go_par2, go_par3, go_asg, go_isB, go_tell, go_kget, go_notB, go_slStep, go_slStepT, go_dictZip, go_setEq, go_ret, true_and]
  refine scaled_ok (by decide) (fun p hp => CMulW.neg1 (hm p hp)) (by omega) ?_
  refine added_ok h1 (sc_ok (by decide) h2) (by rw [sc_len]; exact hl) ?_
  exact go_fin_same frz_sD q
theorem zadd_D : ∀ (z w : Row), (z.zip w).map (fun p : Int × Int => D.int (p.1 + p.2)) = (zadd z w).map D.int
  | [], _ => rfl
  | _ :: _, [] => rfl
  | a :: z, b :: w => by
    show D.int (a + b) :: (z.zip w).map _ = D.int (a + b) :: (zadd z w).map D.int
    rw [zadd_D z w]
theorem paired_ints : ∀ z w : Row, paired (z.map D.int) (w.map D.int) = (z.zip w).map fun p : Int × Int => D.tup [.int p.1, .int p.2]
  | [], _ => rfl
  | _ :: _, [] => rfl
  | a :: z, b :: w => by
    show D.tup [.int a, .int b] :: paired (z.map D.int) (w.map D.int) = D.tup [.int a, .int b] :: (z.zip w).map _
    rw [paired_ints z w]
theorem times_ok (h1 : SumOk k s) (h2 : SumOk k t) (hm : ∀ p ∈ s, ∀ r ∈ t, CMulW p.2 r.2) (hk : k ≤ 1000) (hl : s.length * t.length + s.length + t.length + 1 ≤ 100000) (q : Q (sD (ptg (mulFrom [] s t))) M) : Go (f_times [sD s, sD t] M) Q := by
  unfold f_times
  rw [go_callD]
  show GoS (m_times [some (sD s), some (sD t), none, none, none, none, none, none, none, none] M) _ _
  unfold m_times
  rw [go_seq, go_set]
  show Go (mTNew _ M) _
  rw [go_tnew]
  rw [go_seq, go_for]
  simp only [go_bin, go_un, go_var, go_c, go_test, go_andT, go_orT, go_notT, go_yes, go_andV, go_if, go_nil, go_cons, go_tup, go_lst, go_lstC, go_cb, go_call, go_callW, go_meth, go_noPart, go_part, go_sl, go_get, go_retN, go_lc, go_dc, go_iter, go_enum, go_rng, go_rng1, go_rng2, go_rng3, go_disp, go_pnil, go_pcons, go_bdT, go_bdF, go_ok, go_nx, go_rt, go_addI, go_addS, go_addT, go_addL, go_subI, go_mulI, go_mulL, go_modI, go_fdivI, go_powI, go_ltI, go_leI, go_gtI, go_geI, go_eqI, go_eqS, go_neI, go_neS, go_ixF, go_ixT, go_ixS, go_ixD, go_slT, go_slF, go_slR, go_slS, go_revF, go_revCF, go_revAT, go_revAL, List.getElem?_cons_zero, List.getElem?_cons_succ, List.set_cons_zero, List.set_cons_succ, List.length_cons, List.length_nil, D.int.injEq, D.bl.injEq, D.str.injEq, Option.some.injEq, exists_eq_left', go_listF, go_listT, go_tupleF, go_tupleT, go_lenF, go_lenT, go_lenS, go_isiS, go_isiI, go_intI, go_intB, go_maxI, it_lst, it_tupD, it_strD, en_lst, en_tup, fr_gN, wipeD, go_inTab, go_notInTab, go_tab, go_lc2, go_par2, go_par3, go_asg, go_isB, go_tell, go_kget, go_notB, go_slStep, go_slStepT, go_dictZip, go_setEq, it_ftu, List.set_cons_zero, List.set_cons_succ]
  refine loop_fold (st := fun acc env M' => M' = M ++ [cellZ acc] ∧ ∃ a b c d e f g, env = [some (sD s), some (sD t), some (.ref M.length), a, b, c, d, e, f, g]) (up := fun acc p => addS acc (mulP p t)) (fun _ => trivial) s [] _ _ ?_ ⟨rfl, none, none, none, none, none, none, none, rfl⟩ ?_
  · rintro pre p post hs env M' ⟨rfl, a, b, c, d, e, f, g, rfl⟩
    have hp : p ∈ s := by rw [hs]; simp
    have hpre : ∀ x ∈ pre, x ∈ s := fun x hx => by rw [hs]; exact List.mem_append_left _ hx
    have hpl : pre.length + 1 ≤ s.length := by rw [hs, List.length_append, List.length_cons]; omega
    obtain ⟨a1, a2, a3, a4⟩ := mulFrom_ok [] (k := k) h2.row pre [] (fun x hx => h1.row x (hpre x hx)) List.nodup_nil (fun _ h => by cases h)
    rw [List.length_nil, Nat.zero_add] at a4
    refine ⟨_, rfl, ?_⟩
    rw [go_for]
    simp only [go_bin, go_un, go_var, go_c, go_test, go_andT, go_orT, go_notT, go_yes, go_andV, go_if, go_nil, go_cons, go_tup, go_lst, go_lstC, go_cb, go_call, go_callW, go_meth, go_noPart, go_part, go_sl, go_get, go_retN, go_lc, go_dc, go_iter, go_enum, go_rng, go_rng1, go_rng2, go_rng3, go_disp, go_pnil, go_pcons, go_bdT, go_bdF, go_ok, go_nx, go_rt, go_addI, go_addS, go_addT, go_addL, go_subI, go_mulI, go_mulL, go_modI, go_fdivI, go_powI, go_ltI, go_leI, go_gtI, go_geI, go_eqI, go_eqS, go_neI, go_neS, go_ixF, go_ixT, go_ixS, go_ixD, go_slT, go_slF, go_slR, go_slS, go_revF, go_revCF, go_revAT, go_revAL, List.getElem?_cons_zero, List.getElem?_cons_succ, List.set_cons_zero, List.set_cons_succ, List.length_cons, List.length_nil, D.int.injEq, D.bl.injEq, D.str.injEq, Option.some.injEq, exists_eq_left', go_listF, go_listT, go_tupleF, go_tupleT, go_lenF, go_lenT, go_lenS, go_isiS, go_isiI, go_intI, go_intB, go_maxI, it_lst, it_tupD, it_strD, en_lst, en_tup, fr_gN, wipeD, go_inTab, go_notInTab, go_tab, go_lc2, go_par2, go_par3, go_asg, go_isB, go_tell, go_kget, go_notB, go_slStep, go_slStepT, go_dictZip, go_setEq, it_ftu, List.set_cons_zero, List.set_cons_succ]
    refine loop_fold (st := fun acc env M' => M' = M ++ [cellZ acc] ∧ ∃ c d e f g, env = [some (sD s), some (sD t), some (.ref M.length), some (tz p.1), some (.int p.2), c, d, e, f, g]) (up := fun acc r => put acc (zadd p.1 r.1) (get acc (zadd p.1 r.1) + p.2 * r.2)) (fun _ => trivial) t (pre.foldl (fun acc p => addS acc (mulP p t)) []) _ _ ?_ ⟨rfl, _, _, _, _, _, rfl⟩ ?_
    · rintro pre2 r post2 ht env M' ⟨rfl, c, d, e, f, g, rfl⟩
      have hr : r ∈ t := by rw [ht]; simp
      have hr1 := h2.row r hr
      have hp1 := h1.row p hp
      refine ⟨_, rfl, ?_⟩
      have hpl2 : pre2.length + 1 ≤ t.length := by rw [ht, List.length_append, List.length_cons]; omega
      have hacc : ((pre2.foldl (fun acc r => put acc (zadd p.1 r.1) (get acc (zadd p.1 r.1) + p.2 * r.2)) (pre.foldl (fun acc p => addS acc (mulP p t)) []))).length ≤ pre.length * t.length + pre2.length := by
        have e0 : pre2.foldl (fun acc r => put acc (zadd p.1 r.1) (get acc (zadd p.1 r.1) + p.2 * r.2)) (pre.foldl (fun acc p => addS acc (mulP p t)) []) = addS (mulFrom [] pre t) (mulP p pre2) := by
          unfold addS mulP mulFrom
          rw [List.foldl_map]
          rfl
        rw [e0]
        have b4 := (addS_ok [] (P := fun _ => True) (mulP p pre2) (mulFrom [] pre t) a1 (fun _ _ => trivial) fun _ _ => trivial).2.2.2
        rw [show (mulP p pre2).length = pre2.length from List.length_map ..] at b4
        omega
      generalize pre2.foldl (fun acc r => put acc (zadd p.1 r.1) (get acc (zadd p.1 r.1) + p.2 * r.2)) (pre.foldl (fun acc p => addS acc (mulP p t)) []) = acc at hacc ⊢
      have hbig : acc.length + 1 ≤ 100000 := by
        have : (pre.length + 1) * t.length ≤ s.length * t.length := Nat.mul_le_mul_right _ hpl
        rw [Nat.add_mul, Nat.one_mul] at this
        omega
      rw [go_seq, go_set]
      simp only [go_bin, go_un, go_var, go_c, go_test, go_andT, go_orT, go_notT, go_yes, go_andV, go_if, go_nil, go_cons, go_tup, go_lst, go_lstC, go_cb, go_call, go_callW, go_meth, go_noPart, go_part, go_sl, go_get, go_retN, go_lc, go_dc, go_iter, go_enum, go_rng, go_rng1, go_rng2, go_rng3, go_disp, go_pnil, go_pcons, go_bdT, go_bdF, go_ok, go_nx, go_rt, go_addI, go_addS, go_addT, go_addL, go_subI, go_mulI, go_mulL, go_modI, go_fdivI, go_powI, go_ltI, go_leI, go_gtI, go_geI, go_eqI, go_eqS, go_neI, go_neS, go_ixF, go_ixT, go_ixS, go_ixD, go_slT, go_slF, go_slR, go_slS, go_revF, go_revCF, go_revAT, go_revAL, List.getElem?_cons_zero, List.getElem?_cons_succ, List.set_cons_zero, List.set_cons_succ, List.length_cons, List.length_nil, D.int.injEq, D.bl.injEq, D.str.injEq, Option.some.injEq, exists_eq_left', go_listF, go_listT, go_tupleF, go_tupleT, go_lenF, go_lenT, go_lenS, go_isiS, go_isiI, go_intI, go_intB, go_maxI, it_lst, it_tupD, it_strD, en_lst, en_tup, fr_gN, wipeD, go_inTab, go_notInTab, go_tab, go_lc2, go_par2, go_par3, go_asg, go_isB, go_tell, go_kget, go_notB, go_slStep, go_slStepT, go_dictZip, go_setEq, List.set_cons_zero, List.set_cons_succ]
      rw [go_zipS (t := ⟨p.1.map D.int, fun _ => True⟩) (u := ⟨r.1.map D.int, fun _ => True⟩) rfl rfl]
      refine ⟨by rw [List.length_map, List.length_map, hp1.1, hr1.1], ?_⟩
      dsimp only
      rw [paired_ints]
      refine cp_pure (h := fun p : Int × Int => D.int (p.1 + p.2)) ⟨trivial, trivial⟩ (p.1.zip r.1) [] (by rw [List.length_nil, List.length_zip]; omega) (fun x hx => ?_) ?_
      · refine ⟨_, rfl, fun K hK => ?_⟩
        simp only [go_bin, go_un, go_var, go_c, go_test, go_andT, go_orT, go_notT, go_yes, go_andV, go_if, go_nil, go_cons, go_tup, go_lst, go_lstC, go_cb, go_call, go_callW, go_meth, go_noPart, go_part, go_sl, go_get, go_retN, go_lc, go_dc, go_iter, go_enum, go_rng, go_rng1, go_rng2, go_rng3, go_disp, go_pnil, go_pcons, go_bdT, go_bdF, go_ok, go_nx, go_rt, go_addI, go_addS, go_addT, go_addL, go_subI, go_mulI, go_mulL, go_modI, go_fdivI, go_powI, go_ltI, go_leI, go_gtI, go_geI, go_eqI, go_eqS, go_neI, go_neS, go_ixF, go_ixT, go_ixS, go_ixD, go_slT, go_slF, go_slR, go_slS, go_revF, go_revCF, go_revAT, go_revAL, List.getElem?_cons_zero, List.getElem?_cons_succ, List.set_cons_zero, List.set_cons_succ, List.length_cons, List.length_nil, D.int.injEq, D.bl.injEq, D.str.injEq, Option.some.injEq, exists_eq_left', go_listF, go_listT, go_tupleF, go_tupleT, go_lenF, go_lenT, go_lenS, go_isiS, go_isiI, go_intI, go_intB, go_maxI, it_lst, it_tupD, it_strD, en_lst, en_tup, fr_gN, wipeD, go_inTab, go_notInTab, go_tab, go_lc2, go_par2, go_par3, go_asg, go_isB, go_tell, go_kget, go_notB, go_slStep, go_slStepT, go_dictZip, go_setEq, List.set_cons_zero, List.set_cons_succ]
        exact hK
      rw [List.nil_append, zadd_D]
      rw [go_setItemT]
      simp only [go_bin, go_un, go_var, go_c, go_test, go_andT, go_orT, go_notT, go_yes, go_andV, go_if, go_nil, go_cons, go_tup, go_lst, go_lstC, go_cb, go_call, go_callW, go_meth, go_noPart, go_part, go_sl, go_get, go_retN, go_lc, go_dc, go_iter, go_enum, go_rng, go_rng1, go_rng2, go_rng3, go_disp, go_pnil, go_pcons, go_bdT, go_bdF, go_ok, go_nx, go_rt, go_addI, go_addS, go_addT, go_addL, go_subI, go_mulI, go_mulL, go_modI, go_fdivI, go_powI, go_ltI, go_leI, go_gtI, go_geI, go_eqI, go_eqS, go_neI, go_neS, go_ixF, go_ixT, go_ixS, go_ixD, go_slT, go_slF, go_slR, go_slS, go_revF, go_revCF, go_revAT, go_revAL, List.getElem?_cons_zero, List.getElem?_cons_succ, List.set_cons_zero, List.set_cons_succ, List.length_cons, List.length_nil, D.int.injEq, D.bl.injEq, D.str.injEq, Option.some.injEq, exists_eq_left', go_listF, go_listT, go_tupleF, go_tupleT, go_lenF, go_lenT, go_lenS, go_isiS, go_isiI, go_intI, go_intB, go_maxI, it_lst, it_tupD, it_strD, en_lst, en_tup, fr_gN, wipeD, go_inTab, go_notInTab, go_tab, go_lc2, go_par2, go_par3, go_asg, go_isB, go_tell, go_kget, go_notB, go_slStep, go_slStepT, go_dictZip, go_setEq, List.set_cons_zero, List.set_cons_succ, go_getT, dct_cell get_last, Option.isSome_some, true_and]
      rw [go_opGetT (show (M ++ [cellZ acc])[M.length]? = some (Cell.dct (acc.map fun p => kz p.1) (acc.map fun p => D.int p.2)) from get_last) (keyT_tz (zadd p.1 r.1)), getD_get]
      simp only [go_mulUI, go_mulI, go_addI]
      refine ⟨hm p hp r hr, _, setMT_put get_last hbig, ?_, _, _, _, _, _, rfl⟩
      rw [set_last]
    · rintro env M' ⟨rfl, c, d, e, f, g, rfl⟩
      refine ⟨?_, _, _, _, _, _, _, _, rfl⟩
      unfold addS mulP
      rw [List.foldl_map]
  · rintro env M' ⟨rfl, a, b, c, d, e, f, g, rfl⟩
    obtain ⟨a1, a2, a3, a4⟩ := mulFrom_ok [] (k := k) h2.row s [] h1.row List.nodup_nil (fun _ h => by cases h)
    rw [List.length_nil, Nat.zero_add] at a4
    simp only [go_bin, go_un, go_var, go_c, go_test, go_andT, go_orT, go_notT, go_yes, go_andV, go_if, go_nil, go_cons, go_tup, go_lst, go_lstC, go_cb, go_call, go_callW, go_meth, go_noPart, go_part, go_sl, go_get, go_retN, go_lc, go_dc, go_iter, go_enum, go_rng, go_rng1, go_rng2, go_rng3, go_disp, go_pnil, go_pcons, go_bdT, go_bdF, go_ok, go_nx, go_rt, go_addI, go_addS, go_addT, go_addL, go_subI, go_mulI, go_mulL, go_modI, go_fdivI, go_powI, go_ltI, go_leI, go_gtI, go_geI, go_eqI, go_eqS, go_neI, go_neS, go_ixF, go_ixT, go_ixS, go_ixD, go_slT, go_slF, go_slR, go_slS, go_revF, go_revCF, go_revAT, go_revAL, List.getElem?_cons_zero, List.getElem?_cons_succ, List.set_cons_zero, List.set_cons_succ, List.length_cons, List.length_nil, D.int.injEq, D.bl.injEq, D.str.injEq, Option.some.injEq, exists_eq_left', go_listF, go_listT, go_tupleF, go_tupleT, go_lenF, go_lenT, go_lenS, go_isiS, go_isiI, go_intI, go_intB, go_maxI, it_lst, it_tupD, it_strD, en_lst, en_tup, fr_gN, wipeD, go_inTab, go_notInTab, go_tab, go_lc2, go_par2, go_par3, go_asg, go_isB, go_tell, go_kget, go_notB, go_slStep, go_slStepT, go_dictZip, go_setEq, go_ret, true_and]
    refine put_together_ok (d := mulFrom [] s t) get_last (keys_sortable a1 fun w hw => (a2 w hw).1) (by omega) ?_
    exact go_fin_app frz_sD q
end
end Su
namespace Su
open PySem PySem.Spec PyProof.Rows L2 Ly
theorem natAbs_pow (x : Int) : ∀ n : Nat, (x ^ n).natAbs = x.natAbs ^ n
  | 0 => by rw [Int.pow_zero, Nat.pow_zero]; rfl
  | n + 1 => by
    rw [Int.pow_succ, Int.natAbs_mul, natAbs_pow x n, Nat.pow_succ]
theorem pow_lt {x : Int} {b n c : Nat} (hx : x.natAbs ≤ 2 ^ b) (h : b * n < c) : (x ^ n).natAbs < 2 ^ c := by
  rw [natAbs_pow]
  refine Nat.lt_of_le_of_lt (Nat.pow_le_pow_left hx n) ?_
  rw [← Nat.pow_mul]
  exact Nat.pow_lt_pow_right (by decide) h
theorem fold_mul {α : Type} (x : Int) : ∀ (l : List α) (b : Int), l.foldl (fun a _ => a * x) b = b * x ^ l.length
  | [], b => by rw [List.length_nil, Int.pow_zero, Int.mul_one]; rfl
  | _ :: l, b => by
    show l.foldl (fun a _ => a * x) (b * x) = _
    rw [fold_mul x l, List.length_cons, Int.pow_succ, Int.mul_assoc, Int.mul_comm x]
section
variable {Q : D → Mem → Prop} {M : Mem} {s : Sm} {k : Nat}
theorem power_of_ok {x p : Int} {b : Nat} (h0 : 0 ≤ p) (h1 : p ≤ 1000) (hx : x.natAbs ≤ 2 ^ b) (hb : b ≤ 100) (q : Q (.int (x ^ p.toNat)) M) : Go (f_power_of [.int x, .int p] M) Q := by
  unfold f_power_of
  rw [go_callD]
  show GoS (m_power_of [some (.int x), some (.int p), none, none] M) _ _
  unfold m_power_of
  rw [go_seq, go_set]
  simp only [go_bin, go_un, go_var, go_c, go_test, go_andT, go_orT, go_notT, go_yes, go_andV, go_if, go_nil, go_cons, go_tup, go_lst, go_lstC, go_cb, go_call, go_callW, go_meth, go_noPart, go_part, go_sl, go_get, go_retN, go_lc, go_dc, go_iter, go_enum, go_rng, go_rng1, go_rng2, go_rng3, go_disp, go_pnil, go_pcons, go_bdT, go_bdF, go_ok, go_nx, go_rt, go_addI, go_addS, go_addT, go_addL, go_subI, go_mulI, go_mulL, go_modI, go_fdivI, go_powI, go_ltI, go_leI, go_gtI, go_geI, go_eqI, go_eqS, go_neI, go_neS, go_ixF, go_ixT, go_ixS, go_ixD, go_slT, go_slF, go_slR, go_slS, go_revF, go_revCF, go_revAT, go_revAL, List.getElem?_cons_zero, List.getElem?_cons_succ, List.set_cons_zero, List.set_cons_succ, List.length_cons, List.length_nil, D.int.injEq, D.bl.injEq, D.str.injEq, Option.some.injEq, exists_eq_left', go_listF, go_listT, go_tupleF, go_tupleT, go_lenF, go_lenT, go_lenS, go_isiS, go_isiI, go_intI, go_intB, go_maxI, it_lst, it_tupD, it_strD, en_lst, en_tup, fr_gN, wipeD, go_inTab, go_notInTab, go_tab, go_lc2, go_par2, go_par3, go_asg, go_isB, go_tell, go_kget, go_notB, go_slStep, go_slStepT, go_dictZip, go_setEq, List.set_cons_zero, List.set_cons_succ]
  rw [go_seq, go_for]
  simp only [go_bin, go_un, go_var, go_c, go_test, go_andT, go_orT, go_notT, go_yes, go_andV, go_if, go_nil, go_cons, go_tup, go_lst, go_lstC, go_cb, go_call, go_callW, go_meth, go_noPart, go_part, go_sl, go_get, go_retN, go_lc, go_dc, go_iter, go_enum, go_rng, go_rng1, go_rng2, go_rng3, go_disp, go_pnil, go_pcons, go_bdT, go_bdF, go_ok, go_nx, go_rt, go_addI, go_addS, go_addT, go_addL, go_subI, go_mulI, go_mulL, go_modI, go_fdivI, go_powI, go_ltI, go_leI, go_gtI, go_geI, go_eqI, go_eqS, go_neI, go_neS, go_ixF, go_ixT, go_ixS, go_ixD, go_slT, go_slF, go_slR, go_slS, go_revF, go_revCF, go_revAT, go_revAL, List.getElem?_cons_zero, List.getElem?_cons_succ, List.set_cons_zero, List.set_cons_succ, List.length_cons, List.length_nil, D.int.injEq, D.bl.injEq, D.str.injEq, Option.some.injEq, exists_eq_left', go_listF, go_listT, go_tupleF, go_tupleT, go_lenF, go_lenT, go_lenS, go_isiS, go_isiI, go_intI, go_intB, go_maxI, it_lst, it_tupD, it_strD, en_lst, en_tup, fr_gN, wipeD, go_inTab, go_notInTab, go_tab, go_lc2, go_par2, go_par3, go_asg, go_isB, go_tell, go_kget, go_notB, go_slStep, go_slStepT, go_dictZip, go_setEq]
  refine ⟨by unfold rngOk; omega, ?_⟩
  refine loop_fold (f := fun i : Nat => D.int (0 + (i : Nat))) (st := fun (acc : Int) env M' => M' = M ∧ ∃ a, env = [some (.int x), some (.int p), some (.int acc), a]) (up := fun acc _ => acc * x) (fun _ => trivial) (List.range p.toNat) 1 _ _ ?_ ⟨rfl, _, rfl⟩ ?_
  · rintro pre y post hs env M' ⟨rfl, a, rfl⟩
    refine ⟨_, rfl, ?_⟩
    rw [go_set]
    simp only [go_bin, go_un, go_var, go_c, go_test, go_andT, go_orT, go_notT, go_yes, go_andV, go_if, go_nil, go_cons, go_tup, go_lst, go_lstC, go_cb, go_call, go_callW, go_meth, go_noPart, go_part, go_sl, go_get, go_retN, go_lc, go_dc, go_iter, go_enum, go_rng, go_rng1, go_rng2, go_rng3, go_disp, go_pnil, go_pcons, go_bdT, go_bdF, go_ok, go_nx, go_rt, go_addI, go_addS, go_addT, go_addL, go_subI, go_mulI, go_mulL, go_modI, go_fdivI, go_powI, go_ltI, go_leI, go_gtI, go_geI, go_eqI, go_eqS, go_neI, go_neS, go_ixF, go_ixT, go_ixS, go_ixD, go_slT, go_slF, go_slR, go_slS, go_revF, go_revCF, go_revAT, go_revAL, List.getElem?_cons_zero, List.getElem?_cons_succ, List.set_cons_zero, List.set_cons_succ, List.length_cons, List.length_nil, D.int.injEq, D.bl.injEq, D.str.injEq, Option.some.injEq, exists_eq_left', go_listF, go_listT, go_tupleF, go_tupleT, go_lenF, go_lenT, go_lenS, go_isiS, go_isiI, go_intI, go_intB, go_maxI, it_lst, it_tupD, it_strD, en_lst, en_tup, fr_gN, wipeD, go_inTab, go_notInTab, go_tab, go_lc2, go_par2, go_par3, go_asg, go_isB, go_tell, go_kget, go_notB, go_slStep, go_slStepT, go_dictZip, go_setEq, List.set_cons_zero, List.set_cons_succ, go_mulUI]
    have hl : pre.length < p.toNat := by
      have e := congrArg List.length hs
      rw [List.length_range, List.length_append, List.length_cons] at e
      omega
    rw [fold_mul, Int.one_mul]
    refine ⟨cmulB (a := 100001) (b := 101) (pow_lt hx ?_) (Nat.lt_of_le_of_lt hx (Nat.pow_lt_pow_right (by decide) (by omega))) (by decide), trivial, _, rfl⟩
    have : b * pre.length ≤ 100 * 1000 := Nat.mul_le_mul hb (by omega)
    omega
  · rintro env M' ⟨rfl, a, rfl⟩
    simp only [go_bin, go_un, go_var, go_c, go_test, go_andT, go_orT, go_notT, go_yes, go_andV, go_if, go_nil, go_cons, go_tup, go_lst, go_lstC, go_cb, go_call, go_callW, go_meth, go_noPart, go_part, go_sl, go_get, go_retN, go_lc, go_dc, go_iter, go_enum, go_rng, go_rng1, go_rng2, go_rng3, go_disp, go_pnil, go_pcons, go_bdT, go_bdF, go_ok, go_nx, go_rt, go_addI, go_addS, go_addT, go_addL, go_subI, go_mulI, go_mulL, go_modI, go_fdivI, go_powI, go_ltI, go_leI, go_gtI, go_geI, go_eqI, go_eqS, go_neI, go_neS, go_ixF, go_ixT, go_ixS, go_ixD, go_slT, go_slF, go_slR, go_slS, go_revF, go_revCF, go_revAT, go_revAL, List.getElem?_cons_zero, List.getElem?_cons_succ, List.set_cons_zero, List.set_cons_succ, List.length_cons, List.length_nil, D.int.injEq, D.bl.injEq, D.str.injEq, Option.some.injEq, exists_eq_left', go_listF, go_listT, go_tupleF, go_tupleT, go_lenF, go_lenT, go_lenS, go_isiS, go_isiI, go_intI, go_intB, go_maxI, it_lst, it_tupD, it_strD, en_lst, en_tup, fr_gN, wipeD, go_inTab, go_notInTab, go_tab, go_lc2, go_par2, go_par3, go_asg, go_isB, go_tell, go_kget, go_notB, go_slStep, go_slStepT, go_dictZip, go_setEq, go_ret]
    rw [fold_mul, Int.one_mul, List.length_range]
    exact go_fin_same rfl q
theorem fold_mon : ∀ (z xs : Row) (b : Int), (z.zip xs).foldl (fun h q => h * q.2 ^ q.1.toNat) b = b * mon z xs
  | [], _, b => by show b = b * 1; rw [Int.mul_one]
  | _ :: _, [], b => by show b = b * 1; rw [Int.mul_one]
  | a :: z, x :: xs, b => by
    show (z.zip xs).foldl (fun h q => h * q.2 ^ q.1.toNat) (b * x ^ a.toNat) = b * (x ^ a.toNat * mon z xs)
    rw [fold_mon z xs, Int.mul_assoc]
theorem fold_bound {b c : Nat} : ∀ (l : List (Int × Int)) (n : Int) (B : Nat), n.natAbs ≤ 2 ^ B → (∀ q ∈ l, (q.2 ^ q.1.toNat).natAbs ≤ 2 ^ c) → (l.foldl (fun h q => h * q.2 ^ q.1.toNat) n).natAbs ≤ 2 ^ (B + c * l.length)
  | [], n, B, h, _ => h
  | q :: l, n, B, h, hl => by
    show (l.foldl (fun h q => h * q.2 ^ q.1.toNat) (n * q.2 ^ q.1.toNat)).natAbs ≤ _
    refine Nat.le_trans (fold_bound (b := b) l _ (B + c) ?_ fun r hr => hl r (List.mem_cons_of_mem _ hr)) (Nat.pow_le_pow_right (by decide) (by rw [List.length_cons, Nat.mul_succ]; omega))
    rw [Int.natAbs_mul, Nat.pow_add]
    exact Nat.mul_le_mul h (hl q List.mem_cons_self)
theorem wo_fold (xs : Row) : ∀ (s : Sm) (b : Int), s.foldl (fun a p => a + p.2 * mon p.1 xs) b = b + wo xs s
  | [], b => by show b = b + 0; omega
  | p :: s, b => by
    show s.foldl (fun a p => a + p.2 * mon p.1 xs) (b + p.2 * mon p.1 xs) = b + (p.2 * mon p.1 xs + wo xs s)
    rw [wo_fold xs s]
    omega
structure Siz (s : Sm) (xs : Row) : Prop where
  ex : ∀ p ∈ s, ∀ i ∈ p.1, i ≤ 1000
  nu : ∀ p ∈ s, p.2.natAbs ≤ 2 ^ 1000
  xs : ∀ x ∈ xs, x.natAbs ≤ 2 ^ 10
theorem worth_at_ok {xs : Row} (hk : xs.length ≤ 10) (hr : ∀ p ∈ s, p.1.length = xs.length ∧ ∀ i ∈ p.1, 0 ≤ i) (hz : Siz s xs) (q : Q (.int (wo xs s)) M) : Go (f_worth_at [sD s, tz xs] M) Q := by
  unfold f_worth_at
  rw [go_callD]
  show GoS (m_worth_at [some (sD s), some (tz xs), none, none, none, none, none, none] M) _ _
  unfold m_worth_at
  rw [go_seq, go_set]
  simp only [go_bin, go_un, go_var, go_c, go_test, go_andT, go_orT, go_notT, go_yes, go_andV, go_if, go_nil, go_cons, go_tup, go_lst, go_lstC, go_cb, go_call, go_callW, go_meth, go_noPart, go_part, go_sl, go_get, go_retN, go_lc, go_dc, go_iter, go_enum, go_rng, go_rng1, go_rng2, go_rng3, go_disp, go_pnil, go_pcons, go_bdT, go_bdF, go_ok, go_nx, go_rt, go_addI, go_addS, go_addT, go_addL, go_subI, go_mulI, go_mulL, go_modI, go_fdivI, go_powI, go_ltI, go_leI, go_gtI, go_geI, go_eqI, go_eqS, go_neI, go_neS, go_ixF, go_ixT, go_ixS, go_ixD, go_slT, go_slF, go_slR, go_slS, go_revF, go_revCF, go_revAT, go_revAL, List.getElem?_cons_zero, List.getElem?_cons_succ, List.set_cons_zero, List.set_cons_succ, List.length_cons, List.length_nil, D.int.injEq, D.bl.injEq, D.str.injEq, Option.some.injEq, exists_eq_left', go_listF, go_listT, go_tupleF, go_tupleT, go_lenF, go_lenT, go_lenS, go_isiS, go_isiI, go_intI, go_intB, go_maxI, it_lst, it_tupD, it_strD, en_lst, en_tup, fr_gN, wipeD, go_inTab, go_notInTab, go_tab, go_lc2, go_par2, go_par3, go_asg, go_isB, go_tell, go_kget, go_notB, go_slStep, go_slStepT, go_dictZip, go_setEq, List.set_cons_zero, List.set_cons_succ]
  rw [go_seq, go_for]
  simp only [go_bin, go_un, go_var, go_c, go_test, go_andT, go_orT, go_notT, go_yes, go_andV, go_if, go_nil, go_cons, go_tup, go_lst, go_lstC, go_cb, go_call, go_callW, go_meth, go_noPart, go_part, go_sl, go_get, go_retN, go_lc, go_dc, go_iter, go_enum, go_rng, go_rng1, go_rng2, go_rng3, go_disp, go_pnil, go_pcons, go_bdT, go_bdF, go_ok, go_nx, go_rt, go_addI, go_addS, go_addT, go_addL, go_subI, go_mulI, go_mulL, go_modI, go_fdivI, go_powI, go_ltI, go_leI, go_gtI, go_geI, go_eqI, go_eqS, go_neI, go_neS, go_ixF, go_ixT, go_ixS, go_ixD, go_slT, go_slF, go_slR, go_slS, go_revF, go_revCF, go_revAT, go_revAL, List.getElem?_cons_zero, List.getElem?_cons_succ, List.set_cons_zero, List.set_cons_succ, List.length_cons, List.length_nil, D.int.injEq, D.bl.injEq, D.str.injEq, Option.some.injEq, exists_eq_left', go_listF, go_listT, go_tupleF, go_tupleT, go_lenF, go_lenT, go_lenS, go_isiS, go_isiI, go_intI, go_intB, go_maxI, it_lst, it_tupD, it_strD, en_lst, en_tup, fr_gN, wipeD, go_inTab, go_notInTab, go_tab, go_lc2, go_par2, go_par3, go_asg, go_isB, go_tell, go_kget, go_notB, go_slStep, go_slStepT, go_dictZip, go_setEq, it_ftu]
  refine loop_fold (st := fun (acc : Int) env M' => M' = M ∧ ∃ a b c d e, env = [some (sD s), some (tz xs), some (.int acc), a, b, c, d, e]) (up := fun acc p => acc + p.2 * mon p.1 xs) (fun _ => trivial) s 0 _ _ ?_ ⟨rfl, _, _, _, _, _, rfl⟩ ?_
  · rintro pre p post hs env M' ⟨rfl, a, b, c, d, e, rfl⟩
    have hp : p ∈ s := by rw [hs]; simp
    obtain ⟨hp1, hp2⟩ := hr p hp
    refine ⟨_, rfl, ?_⟩
    generalize pre.foldl (fun acc p => acc + p.2 * mon p.1 xs) 0 = acc
    rw [go_seq, go_set]
    simp only [go_bin, go_un, go_var, go_c, go_test, go_andT, go_orT, go_notT, go_yes, go_andV, go_if, go_nil, go_cons, go_tup, go_lst, go_lstC, go_cb, go_call, go_callW, go_meth, go_noPart, go_part, go_sl, go_get, go_retN, go_lc, go_dc, go_iter, go_enum, go_rng, go_rng1, go_rng2, go_rng3, go_disp, go_pnil, go_pcons, go_bdT, go_bdF, go_ok, go_nx, go_rt, go_addI, go_addS, go_addT, go_addL, go_subI, go_mulI, go_mulL, go_modI, go_fdivI, go_powI, go_ltI, go_leI, go_gtI, go_geI, go_eqI, go_eqS, go_neI, go_neS, go_ixF, go_ixT, go_ixS, go_ixD, go_slT, go_slF, go_slR, go_slS, go_revF, go_revCF, go_revAT, go_revAL, List.getElem?_cons_zero, List.getElem?_cons_succ, List.set_cons_zero, List.set_cons_succ, List.length_cons, List.length_nil, D.int.injEq, D.bl.injEq, D.str.injEq, Option.some.injEq, exists_eq_left', go_listF, go_listT, go_tupleF, go_tupleT, go_lenF, go_lenT, go_lenS, go_isiS, go_isiI, go_intI, go_intB, go_maxI, it_lst, it_tupD, it_strD, en_lst, en_tup, fr_gN, wipeD, go_inTab, go_notInTab, go_tab, go_lc2, go_par2, go_par3, go_asg, go_isB, go_tell, go_kget, go_notB, go_slStep, go_slStepT, go_dictZip, go_setEq, List.set_cons_zero, List.set_cons_succ]
    rw [go_seq, go_for]
    simp only [go_bin, go_un, go_var, go_c, go_test, go_andT, go_orT, go_notT, go_yes, go_andV, go_if, go_nil, go_cons, go_tup, go_lst, go_lstC, go_cb, go_call, go_callW, go_meth, go_noPart, go_part, go_sl, go_get, go_retN, go_lc, go_dc, go_iter, go_enum, go_rng, go_rng1, go_rng2, go_rng3, go_disp, go_pnil, go_pcons, go_bdT, go_bdF, go_ok, go_nx, go_rt, go_addI, go_addS, go_addT, go_addL, go_subI, go_mulI, go_mulL, go_modI, go_fdivI, go_powI, go_ltI, go_leI, go_gtI, go_geI, go_eqI, go_eqS, go_neI, go_neS, go_ixF, go_ixT, go_ixS, go_ixD, go_slT, go_slF, go_slR, go_slS, go_revF, go_revCF, go_revAT, go_revAL, List.getElem?_cons_zero, List.getElem?_cons_succ, List.set_cons_zero, List.set_cons_succ, List.length_cons, List.length_nil, D.int.injEq, D.bl.injEq, D.str.injEq, Option.some.injEq, exists_eq_left', go_listF, go_listT, go_tupleF, go_tupleT, go_lenF, go_lenT, go_lenS, go_isiS, go_isiI, go_intI, go_intB, go_maxI, it_lst, it_tupD, it_strD, en_lst, en_tup, fr_gN, wipeD, go_inTab, go_notInTab, go_tab, go_lc2, go_par2, go_par3, go_asg, go_isB, go_tell, go_kget, go_notB, go_slStep, go_slStepT, go_dictZip, go_setEq, List.set_cons_zero, List.set_cons_succ]
    rw [go_zipS (t := ⟨p.1.map D.int, fun _ => True⟩) (u := ⟨xs.map D.int, fun _ => True⟩) rfl rfl]
    refine ⟨by rw [List.length_map, List.length_map, hp1], ?_⟩
    dsimp only
    rw [paired_ints]
    have big : ∀ q ∈ p.1.zip xs, (q.2 ^ q.1.toNat).natAbs ≤ 2 ^ 10001 ∧ 0 ≤ q.1 ∧ q.1 ≤ 1000 ∧ q.2.natAbs ≤ 2 ^ 10 := fun q hq => by
      obtain ⟨i1, i2⟩ := List.of_mem_zip (a := q.1) (b := q.2) hq
      have j1 := hp2 _ i1
      have j2 := hz.ex p hp _ i1
      have j3 := hz.xs _ i2
      exact ⟨Nat.le_of_lt (pow_lt j3 (by omega)), j1, j2, j3⟩
    refine loop_fold (f := fun r : Int × Int => D.tup [.int r.1, .int r.2]) (st := fun (h : Int) env N => N = M' ∧ ∃ d e, env = [some (sD s), some (tz xs), some (.int acc), some (tz p.1), some (.int p.2), some (.int h), d, e]) (up := fun h r => h * r.2 ^ r.1.toNat) (fun _ => ⟨trivial, trivial⟩) (p.1.zip xs) p.2 _ _ ?_ ⟨rfl, _, _, rfl⟩ ?_
    · rintro pre2 r post2 hz2 env N ⟨rfl, d, e, rfl⟩
      have hr : r ∈ p.1.zip xs := by rw [hz2]; simp
      obtain ⟨b1, b2, b3, b4⟩ := big r hr
      have hb := fold_bound (b := 0) pre2 p.2 1000 (hz.nu p hp) fun q hq => (big q (by rw [hz2]; exact List.mem_append_left _ hq)).1
      have hl : pre2.length ≤ 10 := by
        have e := congrArg List.length hz2
        rw [List.length_zip, List.length_append, List.length_cons] at e
        omega
      generalize pre2.foldl (fun h r => h * r.2 ^ r.1.toNat) p.2 = h at hb ⊢
      refine ⟨_, rfl, ?_⟩
      rw [go_set]
      simp only [go_bin, go_un, go_var, go_c, go_test, go_andT, go_orT, go_notT, go_yes, go_andV, go_if, go_nil, go_cons, go_tup, go_lst, go_lstC, go_cb, go_call, go_callW, go_meth, go_noPart, go_part, go_sl, go_get, go_retN, go_lc, go_dc, go_iter, go_enum, go_rng, go_rng1, go_rng2, go_rng3, go_disp, go_pnil, go_pcons, go_bdT, go_bdF, go_ok, go_nx, go_rt, go_addI, go_addS, go_addT, go_addL, go_subI, go_mulI, go_mulL, go_modI, go_fdivI, go_powI, go_ltI, go_leI, go_gtI, go_geI, go_eqI, go_eqS, go_neI, go_neS, go_ixF, go_ixT, go_ixS, go_ixD, go_slT, go_slF, go_slR, go_slS, go_revF, go_revCF, go_revAT, go_revAL, List.getElem?_cons_zero, List.getElem?_cons_succ, List.set_cons_zero, List.set_cons_succ, List.length_cons, List.length_nil, D.int.injEq, D.bl.injEq, D.str.injEq, Option.some.injEq, exists_eq_left', go_listF, go_listT, go_tupleF, go_tupleT, go_lenF, go_lenT, go_lenS, go_isiS, go_isiI, go_intI, go_intB, go_maxI, it_lst, it_tupD, it_strD, en_lst, en_tup, fr_gN, wipeD, go_inTab, go_notInTab, go_tab, go_lc2, go_par2, go_par3, go_asg, go_isB, go_tell, go_kget, go_notB, go_slStep, go_slStepT, go_dictZip, go_setEq, List.set_cons_zero, List.set_cons_succ, true_and]
      refine power_of_ok (b := 10) b2 b3 b4 (by decide) ?_
      rw [go_mulUI, go_mulI]
      refine ⟨cmulB (a := 101012) (b := 10002) (Nat.lt_of_le_of_lt hb (Nat.pow_lt_pow_right (by decide) ?_)) (Nat.lt_of_le_of_lt b1 (Nat.pow_lt_pow_right (by decide) (by omega))) (by decide), rfl, _, _, rfl⟩
      have : 10001 * pre2.length ≤ 10001 * 10 := Nat.mul_le_mul_left _ hl
      omega
    · rintro env N ⟨rfl, d, e, rfl⟩
      rw [fold_mon]
      show Go (opAug (.int acc) (.int (p.2 * mon p.1 xs)) N) _
      rw [go_augI]
      exact ⟨rfl, _, _, _, _, _, rfl⟩
  · rintro env M' ⟨rfl, a, b, c, d, e, rfl⟩
    simp only [go_bin, go_un, go_var, go_c, go_test, go_andT, go_orT, go_notT, go_yes, go_andV, go_if, go_nil, go_cons, go_tup, go_lst, go_lstC, go_cb, go_call, go_callW, go_meth, go_noPart, go_part, go_sl, go_get, go_retN, go_lc, go_dc, go_iter, go_enum, go_rng, go_rng1, go_rng2, go_rng3, go_disp, go_pnil, go_pcons, go_bdT, go_bdF, go_ok, go_nx, go_rt, go_addI, go_addS, go_addT, go_addL, go_subI, go_mulI, go_mulL, go_modI, go_fdivI, go_powI, go_ltI, go_leI, go_gtI, go_geI, go_eqI, go_eqS, go_neI, go_neS, go_ixF, go_ixT, go_ixS, go_ixD, go_slT, go_slF, go_slR, go_slS, go_revF, go_revCF, go_revAT, go_revAL, List.getElem?_cons_zero, List.getElem?_cons_succ, List.set_cons_zero, List.set_cons_succ, List.length_cons, List.length_nil, D.int.injEq, D.bl.injEq, D.str.injEq, Option.some.injEq, exists_eq_left', go_listF, go_listT, go_tupleF, go_tupleT, go_lenF, go_lenT, go_lenS, go_isiS, go_isiI, go_intI, go_intB, go_maxI, it_lst, it_tupD, it_strD, en_lst, en_tup, fr_gN, wipeD, go_inTab, go_notInTab, go_tab, go_lc2, go_par2, go_par3, go_asg, go_isB, go_tell, go_kget, go_notB, go_slStep, go_slStepT, go_dictZip, go_setEq, go_ret]
    rw [wo_fold, Int.zero_add]
    exact go_fin_same rfl q
end
end Su
namespace Sk
open PySem PySem.Spec PyProof.Rows L2 Ly
end Sk
namespace Sk
open PySem PySem.Spec PyProof.Rows L2 Ly
noncomputable def m__law_deck : MS := (mSeq (mAsg (mCB fList (mCons (mSl (mVar 0) mNoPart (mPart (mC (.int 63)))) mNil)) (gN 1))
  (mSeq (mAsg (mC (.int 69621)) (gN 2))
  (mSeq (mFor (mIter (mVar 1)) (gN 3) (mAsg (mBin opMod (mBin opAdd (mBin opAdd (mBin opMul (mVar 2) (mC (.int 39373))) (mBin opMod (mVar 3) (mC (.int 2147483587)))) (mC (.int 11))) (mC (.int 2147483629))) (gN 2)))
  (mRet (mLstC (mCons (mUn opRevC (mVar 1)) (mCons (mVar 2) (mCons (mC (.int 0)) mNil))))))))
noncomputable def f__law_deck : MF := callK 4 m__law_deck
noncomputable def m__law_draw : MS := (mSeq (mSetItem (mBin opAdd (mBin opIx (mVar 0) (mC (.int 2))) (mC (.int 1))) (mVar 0) (mC (.int 2)))
  (mSeq (mAsg (mBin opIx (mVar 0) (mC (.int 1))) (gN 2))
  (mSeq (mIfS (mTest (mBin opNe (mBin opIx (mVar 0) (mC (.int 0))) (mLst mNil))) (mSeq (mAsg (mMeth isLst fPop (mBin opIx (mVar 0) (mC (.int 0))) mNil) (gN 2))
  (mIfS (mTest (mBin opGe (mVar 2) (mBin opPow (mC (.int 10)) (mC (.int 18))))) (mSeq (mDrop (mMeth isLst fAppend (mBin opIx (mVar 0) (mC (.int 0))) (mCons (mBin opFdiv (mVar 2) (mVar 1)) mNil)))
  (mRet (mBin opMod (mVar 2) (mVar 1)))) mNext)) mNext)
  (mSeq (mAsg (mBin opAdd (mBin opAdd (mBin opMod (mVar 2) (mC (.int 2147483629))) (mBin opMul (mBin opMul (mC (.int 130363)) (mBin opIx (mVar 0) (mC (.int 2)))) (mBin opIx (mVar 0) (mC (.int 2))))) (mBin opIx (mVar 0) (mC (.int 1)))) (gN 3))
  (mSeq (mAsg (mBin opMod (mBin opAdd (mBin opMul (mVar 3) (mC (.int 48271))) (mBin opMul (mC (.int 40692)) (mBin opIx (mVar 0) (mC (.int 2))))) (mC (.int 2147483563))) (gN 3))
  (mSeq (mAsg (mBin opMod (mBin opAdd (mBin opMul (mVar 3) (mVar 3)) (mC (.int 31))) (mC (.int 2147483587))) (gN 3))
  (mRet (mBin opMod (mBin opFdiv (mBin opMod (mBin opMul (mVar 3) (mC (.int 16807))) (mC (.int 2147483647))) (mC (.int 64))) (mVar 1)))))))))
noncomputable def f__law_draw : MF := callD 4 m__law_draw
end Sk
namespace Sk
open PySem PySem.Spec PyProof.Rows L2 Ly
theorem draw_ok {b : Nat} {T M : Mem} {m : Int} {Q : D → Mem → Prop} (h : DkIs b T M) (hb : b ≤ 1000000) (hm : 0 < m) (hm2 : m < 1073741824) (q : ∀ r M', 0 ≤ r → r < m → DkIs (b + 1) T M' → Q (.int r) M') : Go (f__law_draw [.ref 1, .int m] M) Q := by
  have h0 := h
  obtain ⟨xs, s, c, rfl, xl, s0, s1, c0, c1⟩ := h
  have mn : m ≠ 0 := by omega
  have fin : ∀ (xs' : List Int) (r : Int), xs'.length ≤ 99 → 0 ≤ r → r < m → Go (finish (dk xs s c T) (.int r) (dk xs' s (c + 1) T)) Q := fun xs' r rl r0 r1 =>
    go_fin_dk0 (b' := b + 1) h0 ⟨xs', s, c + 1, rfl, rl, s0, s1, by omega, by omega⟩ (frz_low rfl) fun M2 h2 => q r M2 r0 r1 h2
  have tail : ∀ (xs' : List Int) (cell : Int), xs'.length ≤ 99 → GoS ((mSeq (mAsg (mBin opAdd (mBin opAdd (mBin opMod (mVar 2) (mC (.int 2147483629))) (mBin opMul (mBin opMul (mC (.int 130363)) (mBin opIx (mVar 0) (mC (.int 2)))) (mBin opIx (mVar 0) (mC (.int 2))))) (mBin opIx (mVar 0) (mC (.int 1)))) (gN 3))
      (mSeq (mAsg (mBin opMod (mBin opAdd (mBin opMul (mVar 3) (mC (.int 48271))) (mBin opMul (mC (.int 40692)) (mBin opIx (mVar 0) (mC (.int 2))))) (mC (.int 2147483563))) (gN 3))
      (mSeq (mAsg (mBin opMod (mBin opAdd (mBin opMul (mVar 3) (mVar 3)) (mC (.int 31))) (mC (.int 2147483587))) (gN 3))
      (mRet (mBin opMod (mBin opFdiv (mBin opMod (mBin opMul (mVar 3) (mC (.int 16807))) (mC (.int 2147483647))) (mC (.int 64))) (mVar 1)))))) [some (.ref 1), some (.int m), some (.int cell), none] (dk xs' s (c + 1) T)) (fun _ M' => Go (finish (dk xs s c T) .non M') Q) fun d M' => Go (finish (dk xs s c T) d M') Q := by
    intro xs' cell xl'
    have e1 : (dk xs' s (c + 1) T)[1]? = some (.lst [.ref 0, .int s, .int (c + 1)]) := rfl
    have a2 : atI [D.ref 0, .int s, .int (c + 1)] 2 = some (.int (c + 1)) := rfl
    have a1 : atI [D.ref 0, .int s, .int (c + 1)] 1 = some (.int s) := rfl
    simp only [go_seq, go_setItem, go_bin, go_un, go_var, go_c, go_test, go_andT, go_orT, go_notT, go_yes, go_andV, go_if, go_nil, go_cons, go_tup, go_lst, go_lstC, go_cb, go_call, go_callW, go_meth, go_noPart, go_part, go_sl, go_get, go_next, go_drop, go_ret, go_retN, go_ifS, go_set, go_for, go_lc, go_dc, go_iter, go_enum, go_rng, go_rng1, go_rng2, go_rng3, go_disp, go_pnil, go_pcons, go_bdT, go_bdF, go_ok, go_nx, go_rt, go_addI, go_addS, go_addT, go_addL, go_subI, go_mulI, go_mulL, go_modI, go_fdivI, go_powI, go_ltI, go_leI, go_gtI, go_geI, go_eqI, go_eqS, go_neI, go_neS, go_ixF, go_ixT, go_ixS, go_ixD, go_slT, go_slF, go_slR, go_slS, go_revF, go_revCF, go_revAT, go_revAL, List.getElem?_cons_zero, List.getElem?_cons_succ, List.set_cons_zero, List.set_cons_succ, List.length_cons, List.length_nil, D.int.injEq, D.bl.injEq, D.str.injEq, Option.some.injEq, exists_eq_left', go_listF, go_listT, go_tupleF, go_tupleT, go_lenF, go_lenT, go_lenS, go_isiS, go_isiI, go_intI, go_intB, go_maxI, it_lst, it_tupD, it_strD, en_lst, en_tup, fr_gN, wipeD, go_inTab, go_notInTab, go_tab, go_lc2, go_par2, go_par3, go_ixL e1, a1, a2, Option.some.injEq, exists_eq_left']
    generalize hn0 : cell.fmod 2147483629 = n0
    have n0a : 0 ≤ n0 := by rw [← hn0]; exact Int.fmod_nonneg_of_pos _ (by decide)
    have n0b : n0 < 2147483629 := by rw [← hn0]; exact Int.fmod_lt_of_pos _ (by decide)
    have cc : 0 ≤ (c + 1) * (c + 1) ∧ (c + 1) * (c + 1) ≤ 1000001 * 1000001 := ⟨Int.mul_nonneg (by omega) (by omega), Int.mul_le_mul (by omega) (by omega) (by omega) (by decide)⟩
    have c3 : 130363 * (c + 1) * (c + 1) = 130363 * ((c + 1) * (c + 1)) := Int.mul_assoc _ _ _
    rw [c3]
    generalize hn1 : n0 + 130363 * ((c + 1) * (c + 1)) + s = n1
    have n1a : 0 ≤ n1 ∧ n1 < 2 ^ 70 := by omega
    generalize hn2 : (n1 * 48271 + 40692 * (c + 1)).fmod 2147483563 = n2
    have n2a : 0 ≤ n2 := by rw [← hn2]; exact Int.fmod_nonneg_of_pos _ (by decide)
    have n2b : n2 < 2147483563 := by rw [← hn2]; exact Int.fmod_lt_of_pos _ (by decide)
    generalize hn3 : (n2 * n2 + 31).fmod 2147483587 = n3
    have n3a : 0 ≤ n3 := by rw [← hn3]; exact Int.fmod_nonneg_of_pos _ (by decide)
    have n3b : n3 < 2147483587 := by rw [← hn3]; exact Int.fmod_lt_of_pos _ (by decide)
    refine ⟨by decide, cmulW (by omega) (by omega), cmulW (by omega) (by omega), cmulW (by omega) (by omega), cmulW (by omega) (by omega), by decide, cmulW (by omega) (by omega), by decide, cmulW (by omega) (by omega), by decide, ⟨by decide, by decide⟩, mn, ?_⟩
    exact fin _ _ xl' (Int.fmod_nonneg_of_pos _ hm) (Int.fmod_lt_of_pos _ hm)
  rw [f__law_draw, go_callD, show startD 4 [D.ref 1, .int m] = [some (.ref 1), some (.int m), none, none] from rfl, m__law_draw]
  have e0 : (dk xs s c T)[1]? = some (.lst [.ref 0, .int s, .int c]) := rfl
  have e1 : (dk xs s (c + 1) T)[1]? = some (.lst [.ref 0, .int s, .int (c + 1)]) := rfl
  have z2 : atI [D.ref 0, .int s, .int c] 2 = some (.int c) := rfl
  have a2 : atI [D.ref 0, .int s, .int (c + 1)] 2 = some (.int (c + 1)) := rfl
  have a1 : atI [D.ref 0, .int s, .int (c + 1)] 1 = some (.int s) := rfl
  have a0 : atI [D.ref 0, .int s, .int (c + 1)] 0 = some (.ref 0) := rfl
  have w : setM (dk xs s c T) (.ref 1) (.int 2) (.int (c + 1)) = some (dk xs s (c + 1) T) := rfl
  have x0 : (dk xs s (c + 1) T)[0]? = some (.lst (xs.map .int)) := rfl
  rw [go_seq, go_setItem]
  simp only [go_bin, go_c, go_var, go_ixL e0, z2, Option.some.injEq, exists_eq_left', go_addI, List.getElem?_cons_zero, w]
  rw [go_seq, go_set]
  simp only [go_bin, go_c, go_var, go_ixL e1, a1, Option.some.injEq, exists_eq_left', List.getElem?_cons_zero, List.set_cons_succ, List.set_cons_zero]
  rw [go_seq, go_ifS]
  simp only [go_test, go_bin, go_c, go_var, go_ixL e1, a0, Option.some.injEq, exists_eq_left', List.getElem?_cons_zero, go_lst, go_nil, go_neE x0, D.bl.injEq, List.length_nil]
  refine ⟨by decide, ?_⟩
  rcases List.eq_nil_or_concat xs with rfl | ⟨ys, l, e⟩
  · rw [if_neg (by decide), go_next]
    exact tail [] s (by decide)
  · rw [List.concat_eq_append] at e
    subst e
    rw [if_pos (by simp)]
    have yl : ys.length ≤ 98 := by
      rw [List.length_append, List.length_singleton] at xl
      omega
    have y0 : (dk (ys ++ [l]) s (c + 1) T)[0]? = some (.lst (ys.map .int ++ [.int l])) := by
      rw [x0, List.map_append]
      rfl
    have pl : (ys.map D.int ++ [D.int l])[(ys.map D.int ++ [D.int l]).length - 1]? = some (.int l) := by simp
    have w2 : (dk (ys ++ [l]) s (c + 1) T).set 0 (.lst (ys.map D.int ++ [D.int l]).dropLast) = dk ys s (c + 1) T := by
      rw [List.dropLast_concat]
      rfl
    have f1 : (dk ys s (c + 1) T)[1]? = some (.lst [.ref 0, .int s, .int (c + 1)]) := rfl
    have f0 : (dk ys s (c + 1) T)[0]? = some (.lst (ys.map .int)) := rfl
    have w3 : (dk ys s (c + 1) T).set 0 (.lst (ys.map D.int ++ [.int (l.fdiv m)])) = dk (ys ++ [l.fdiv m]) s (c + 1) T := by
      show _ :: _ = _ :: _
      rw [List.map_append]
      rfl
    rw [go_seq, go_set]
    simp only [go_meth, go_bin, go_c, go_var, go_ixL e1, a0, Option.some.injEq, exists_eq_left', List.getElem?_cons_zero, List.getElem?_cons_succ, go_nil, isLst_ref y0, go_pop y0, pl, w2, true_and, List.set_cons_succ, List.set_cons_zero]
    rw [go_ifS]
    simp only [go_test, go_bin, go_c, go_var, List.getElem?_cons_zero, List.getElem?_cons_succ, go_powI, go_geI]
    refine ⟨⟨by decide, by decide, by decide⟩, _, rfl, ?_⟩
    split
    · rw [go_seq, go_drop]
      simp only [go_meth, go_bin, go_c, go_var, go_ixL f1, a0, Option.some.injEq, exists_eq_left', List.getElem?_cons_zero, List.getElem?_cons_succ, go_nil, go_cons, isLst_ref f0, true_and, go_fdivI, go_append f0, w3, go_ret, go_modI]
      refine ⟨⟨mn, by omega⟩, ?_, mn, ?_⟩
      · rw [List.length_map]
        omega
      · exact fin _ _ (by rw [List.length_append, List.length_singleton]; omega) (Int.fmod_nonneg_of_pos _ hm) (Int.fmod_lt_of_pos _ hm)
    · rw [go_next]
      exact tail ys l (by omega)
theorem cut_ints (ns : List Int) (lo hi : Option Int) : ∃ xs : List Int, cutD (ns.map .int) lo hi = xs.map .int ∧ xs.length ≤ ns.length := by
  refine ⟨(ns.drop (HT.sIx (ns.map D.int).length 0 lo)).take (HT.sIx (ns.map D.int).length (ns.map D.int).length hi - HT.sIx (ns.map D.int).length 0 lo), ?_, ?_⟩
  · unfold Ly.cutD
    rw [List.map_take, List.map_drop]
  · rw [List.length_take, List.length_drop]
    omega
theorem deck_ok {ns : List Int} (hn : ns.length ≤ 63) {Q : D → Mem → Prop} (q : ∀ M, DkIs 0 [] M → Q (.ref 1) M) : Go (f__law_deck [scriptD ns] []) Q := by
  obtain ⟨xs, hx, xl⟩ := cut_ints ns none (some 63)
  rw [f__law_deck, go_callK, show startD 4 [scriptD ns] = [some (.scr (ns.map .int)), none, none, none] from rfl, m__law_deck]
  simp only [go_seq, go_setItem, go_bin, go_un, go_var, go_c, go_test, go_andT, go_orT, go_notT, go_yes, go_andV, go_if, go_nil, go_cons, go_tup, go_lst, go_lstC, go_cb, go_call, go_callW, go_meth, go_noPart, go_part, go_sl, go_get, go_next, go_drop, go_ret, go_retN, go_ifS, go_set, go_for, go_lc, go_dc, go_iter, go_enum, go_rng, go_rng1, go_rng2, go_rng3, go_disp, go_pnil, go_pcons, go_bdT, go_bdF, go_ok, go_nx, go_rt, go_addI, go_addS, go_addT, go_addL, go_subI, go_mulI, go_mulL, go_modI, go_fdivI, go_powI, go_ltI, go_leI, go_gtI, go_geI, go_eqI, go_eqS, go_neI, go_neS, go_ixF, go_ixT, go_ixS, go_ixD, go_slT, go_slF, go_slR, go_slS, go_revF, go_revCF, go_revAT, go_revAL, List.getElem?_cons_zero, List.getElem?_cons_succ, List.set_cons_zero, List.set_cons_succ, List.length_cons, List.length_nil, D.int.injEq, D.bl.injEq, D.str.injEq, Option.some.injEq, exists_eq_left', go_listF, go_listT, go_tupleF, go_tupleT, go_lenF, go_lenT, go_lenS, go_isiS, go_isiI, go_intI, go_intB, go_maxI, it_lst, it_tupD, it_strD, en_lst, en_tup, fr_gN, wipeD, go_inTab, go_notInTab, go_tab, go_lc2, go_par2, go_par3, hx]
  refine go_loop (fun ds env M => M = [] ∧ (∃ ys : List Int, ds = ys.map .int) ∧ ∃ s x, env = [some (.scr (ns.map .int)), some (.lst (xs.map .int)), some (.int s), x] ∧ 0 ≤ s ∧ s < 2147483629) ?_ ?_ _ _ _ ⟨rfl, ⟨xs, rfl⟩, _, _, rfl, by decide, by decide⟩
  · rintro d ds env M ⟨rfl, ⟨ys, e⟩, s, x, rfl, s0, s1⟩
    refine ⟨trivial, _, rfl, ?_⟩
    cases ys with
    | nil => cases e
    | cons y ys =>
      cases e
      simp only [go_seq, go_setItem, go_bin, go_un, go_var, go_c, go_test, go_andT, go_orT, go_notT, go_yes, go_andV, go_if, go_nil, go_cons, go_tup, go_lst, go_lstC, go_cb, go_call, go_callW, go_meth, go_noPart, go_part, go_sl, go_get, go_next, go_drop, go_ret, go_retN, go_ifS, go_set, go_for, go_lc, go_dc, go_iter, go_enum, go_rng, go_rng1, go_rng2, go_rng3, go_disp, go_pnil, go_pcons, go_bdT, go_bdF, go_ok, go_nx, go_rt, go_addI, go_addS, go_addT, go_addL, go_subI, go_mulI, go_mulL, go_modI, go_fdivI, go_powI, go_ltI, go_leI, go_gtI, go_geI, go_eqI, go_eqS, go_neI, go_neS, go_ixF, go_ixT, go_ixS, go_ixD, go_slT, go_slF, go_slR, go_slS, go_revF, go_revCF, go_revAT, go_revAL, List.getElem?_cons_zero, List.getElem?_cons_succ, List.set_cons_zero, List.set_cons_succ, List.length_cons, List.length_nil, D.int.injEq, D.bl.injEq, D.str.injEq, Option.some.injEq, exists_eq_left', go_listF, go_listT, go_tupleF, go_tupleT, go_lenF, go_lenT, go_lenS, go_isiS, go_isiI, go_intI, go_intB, go_maxI, it_lst, it_tupD, it_strD, en_lst, en_tup, fr_gN, wipeD, go_inTab, go_notInTab, go_tab, go_lc2, go_par2, go_par3]
      refine ⟨cmulW (by omega) (by decide), by decide, by decide, trivial, ⟨ys, rfl⟩, _, _, rfl, Int.fmod_nonneg_of_pos _ (by decide), Int.fmod_lt_of_pos _ (by decide)⟩
  · rintro env M ⟨rfl, _, s, x, rfl, s0, s1⟩
    refine ⟨trivial, ?_⟩
    simp only [go_seq, go_setItem, go_bin, go_un, go_var, go_c, go_test, go_andT, go_orT, go_notT, go_yes, go_andV, go_if, go_nil, go_cons, go_tup, go_lst, go_lstC, go_cb, go_call, go_callW, go_meth, go_noPart, go_part, go_sl, go_get, go_next, go_drop, go_ret, go_retN, go_ifS, go_set, go_for, go_lc, go_dc, go_iter, go_enum, go_rng, go_rng1, go_rng2, go_rng3, go_disp, go_pnil, go_pcons, go_bdT, go_bdF, go_ok, go_nx, go_rt, go_addI, go_addS, go_addT, go_addL, go_subI, go_mulI, go_mulL, go_modI, go_fdivI, go_powI, go_ltI, go_leI, go_gtI, go_geI, go_eqI, go_eqS, go_neI, go_neS, go_ixF, go_ixT, go_ixS, go_ixD, go_slT, go_slF, go_slR, go_slS, go_revF, go_revCF, go_revAT, go_revAL, List.getElem?_cons_zero, List.getElem?_cons_succ, List.set_cons_zero, List.set_cons_succ, List.length_cons, List.length_nil, D.int.injEq, D.bl.injEq, D.str.injEq, Option.some.injEq, exists_eq_left', go_listF, go_listT, go_tupleF, go_tupleT, go_lenF, go_lenT, go_lenS, go_isiS, go_isiI, go_intI, go_intB, go_maxI, it_lst, it_tupD, it_strD, en_lst, en_tup, fr_gN, wipeD, go_inTab, go_notInTab, go_tab, go_lc2, go_par2, go_par3]
    refine ⟨by decide, q _ ⟨xs.reverse, s, 0, ?_, by rw [List.length_reverse]; omega, s0, by omega, by decide, by decide⟩⟩
    rw [← List.map_reverse]
    rfl
def kS (x y : Str) : Key × D := (.inr x, .str y)
end Sk
namespace Sk
open PySem PySem.Spec PyProof.Rows L2 Ly
structure Az (lo hi : Nat) (x : Str) : Prop where
  lo : lo ≤ x.cps.size
  hi : x.cps.size ≤ hi
  az : ∀ c ∈ x.cps.toList, 97 ≤ c ∧ c ≤ 122
theorem Az.nm {lo hi n : Nat} {x : Str} (h : Az lo hi x) (hn : hi ≤ n) : Nm n x := ⟨Nat.le_trans h.hi hn, fun c hc => by have := h.az c hc; omega⟩
theorem Az.mono {lo hi lo' hi' : Nat} {x : Str} (h : Az lo hi x) (h1 : lo' ≤ lo) (h2 : hi ≤ hi') : Az lo' hi' x := ⟨Nat.le_trans h1 h.lo, Nat.le_trans h.hi h2, h.az⟩
theorem Az.one {c : Nat} (h1 : 97 ≤ c) (h2 : c ≤ 122) : Az 1 1 ⟨#[c]⟩ := ⟨Nat.le_refl _, Nat.le_refl _, fun d hd => by
  have : d = c := by simpa using hd
  omega⟩
theorem cutS_list (x : Str) (lo hi : Option Int) : (cutS x lo hi).cps.toList = (x.cps.toList.drop (HT.sIx x.cps.size 0 lo)).take (HT.sIx x.cps.size x.cps.size hi - HT.sIx x.cps.size 0 lo) := by
  unfold cutS
  rw [List.toList_toArray]
  rfl
theorem Az.to {n : Nat} {x : Str} (h : Az n n x) {k : Nat} (hk : k ≤ n) : Az k k (cutS x none (some (k : Int))) := by
  have hs : x.cps.size = n := Nat.le_antisymm h.hi h.lo
  have e : (cutS x none (some (k : Int))).cps.toList = x.cps.toList.take k := by
    rw [cutS_list, HT.sIx_none, HT.sIx_nat, hs, Nat.min_eq_left hk, List.drop_zero, Nat.sub_zero]
  have l : (cutS x none (some (k : Int))).cps.size = k := by
    rw [← Array.length_toList, e, List.length_take, Array.length_toList, hs, Nat.min_eq_left hk]
  exact ⟨Nat.le_of_eq l.symm, Nat.le_of_eq l, fun c hc => by
    rw [e] at hc
    exact h.az c (List.mem_of_mem_take hc)⟩
theorem Az.from {n : Nat} {x : Str} (h : Az n n x) {k : Nat} (hk : k ≤ n) : Az (n - k) (n - k) (cutS x (some (k : Int)) none) := by
  have hs : x.cps.size = n := Nat.le_antisymm h.hi h.lo
  have e : (cutS x (some (k : Int)) none).cps.toList = x.cps.toList.drop k := by
    rw [cutS_list, HT.sIx_none, HT.sIx_nat, hs, Nat.min_eq_left hk, List.take_of_length_le]
    rw [List.length_drop, Array.length_toList, hs]
    exact Nat.le_refl _
  have l : (cutS x (some (k : Int)) none).cps.size = n - k := by
    rw [← Array.length_toList, e, List.length_drop, Array.length_toList, hs]
  exact ⟨Nat.le_of_eq l.symm, Nat.le_of_eq l, fun c hc => by
    rw [e] at hc
    exact h.az c (List.mem_of_mem_drop hc)⟩
structure NamesOk (xs : List Str) : Prop where
  len : xs.length = 16
  nd : xs.Nodup
  az : ∀ x ∈ xs, Az 1 8 x
theorem NamesOk.nm {xs : List Str} (h : NamesOk xs) : ∀ x ∈ xs, Nm 32 x := fun x hx => (h.az x hx).nm (by decide)
instance (lo hi : Nat) (x : Str) : Decidable (Az lo hi x) := decidable_of_iff (lo ≤ x.cps.size ∧ x.cps.size ≤ hi ∧ ∀ c ∈ x.cps.toList, 97 ≤ c ∧ c ≤ 122) ⟨fun h => ⟨h.1, h.2.1, h.2.2⟩, fun h => ⟨h.lo, h.hi, h.az⟩⟩
instance (n : Nat) (x : Str) : Decidable (Nm n x) := by unfold Nm; exact inferInstance
end Sk
namespace Sk
open PySem PySem.Spec PyProof.Rows L2 Ly
inductive O where
  | s (x : Str) | i (k : Int)
  deriving DecidableEq
def od : O → D
  | .s x => .str x
  | .i k => .int k
structure Stp where
  w : Str
  n : Str
  os : List O
def Thru (l : Stp) (p : Str) : Prop := (l.w = "line" ∧ .s p ∈ l.os) ∨ ((l.w = "along" ∨ l.w = "upright") ∧ l.os.head? = some (.s p))
def formL : List (Str × List Nat) := [("free", []), ("on", [76]), ("round", [67]), ("meet", [76, 76]), ("middle", [80, 80]), ("foot", [80, 76]), ("mirror", [80, 76]), ("turn", [80, 80, 110]), ("other", [76, 67, 80]), ("cross", [76, 67, 107]), ("line", [80, 80]), ("along", [80, 76]), ("upright", [80, 76]), ("circle", [80, 80])]
def sortC (w : Str) : Nat := if w = "circle" then 67 else if w ∈ (["line", "along", "upright"] : List Str) then 76 else 80
inductive ItemOk (ss : List Stp) : Nat → O → Prop
  | n {k : Int} : 1 ≤ k → k ≤ 3 → ItemOk ss 110 (.i k)
  | k {k : Int} : 0 ≤ k → k ≤ 1 → ItemOk ss 107 (.i k)
  | s {t : Stp} : t ∈ ss → ItemOk ss (sortC t.w) (.s t.n)
inductive All2 {α β : Type} (R : α → β → Prop) : List α → List β → Prop
  | nil : All2 R [] []
  | cons {a : α} {b : β} {as : List α} {bs : List β} : R a b → All2 R as bs → All2 R (a :: as) (b :: bs)
theorem All2.length {α β : Type} {R : α → β → Prop} : ∀ {as : List α} {bs : List β}, All2 R as bs → as.length = bs.length
  | _, _, .nil => rfl
  | _, _, .cons _ t => by rw [List.length_cons, List.length_cons, t.length]
theorem All2.imp {α β : Type} {R S : α → β → Prop} (h : ∀ a b, R a b → S a b) : ∀ {as : List α} {bs : List β}, All2 R as bs → All2 S as bs
  | _, _, .nil => .nil
  | _, _, .cons r t => .cons (h _ _ r) (t.imp h)
theorem All2.right {α β : Type} {R : α → β → Prop} : ∀ {as : List α} {bs : List β}, All2 R as bs → ∀ b ∈ bs, ∃ a ∈ as, R a b
  | _, _, .nil, b, h => by cases h
  | _, _, .cons q t, b, h => by
    rcases List.mem_cons.mp h with rfl | h
    · exact ⟨_, List.mem_cons_self, q⟩
    · obtain ⟨a, h1, h2⟩ := t.right b h
      exact ⟨a, List.mem_cons_of_mem _ h1, h2⟩
def strsO (os : List O) : List Str := os.filterMap fun o => match o with
  | .s x => some x
  | .i _ => none
structure Fit (ss : List Stp) (s : Stp) : Prop where
  nm : Az 1 8 s.n
  form : ∃ z, (s.w, z) ∈ formL ∧ All2 (ItemOk ss) z s.os
  nd : (strsO s.os).Nodup
  oth : s.w = "other" → ∃ l ∈ ss, ∃ c ∈ ss, ∃ p m, s.os = [.s l.n, .s c.n, .s p] ∧ c.w = "circle" ∧ c.os = [.s m, .s p] ∧ Thru l p
theorem ItemOk.mono {ss ss' : List Stp} (h : ∀ s ∈ ss, s ∈ ss') {c : Nat} {o : O} (i : ItemOk ss c o) : ItemOk ss' c o := by
  cases i with
  | n a b => exact .n a b
  | k a b => exact .k a b
  | s t => exact .s (h _ t)
theorem Fit.mono {ss ss' : List Stp} {s : Stp} (h : Fit ss s) (hs : ∀ s ∈ ss, s ∈ ss') : Fit ss' s :=
  ⟨h.nm, let ⟨z, a, b⟩ := h.form; ⟨z, a, b.imp fun _ _ => ItemOk.mono hs⟩, h.nd, fun e => let ⟨l, hl, c, hc, r⟩ := h.oth e; ⟨l, hs _ hl, c, hs _ hc, r⟩⟩
structure SkOk (ss : List Stp) : Prop where
  fit : ∀ pre s post, ss = pre ++ s :: post → Fit pre s
  nd : (ss.map (·.n)).Nodup
theorem SkOk.mem {ss : List Stp} (h : SkOk ss) {s : Stp} (hs : s ∈ ss) : Fit ss s := by
  obtain ⟨pre, post, e⟩ := List.append_of_mem hs
  refine (h.fit pre s post e).mono fun x hx => ?_
  rw [e]
  exact List.mem_append_left _ hx
theorem SkOk.take {ss : List Stp} (h : SkOk ss) (k : Nat) : SkOk (ss.take k) := by
  refine ⟨?_, ?_⟩
  · intro pre s post e
    refine h.fit pre s (post ++ ss.drop k) ?_
    have t := List.take_append_drop k ss
    rw [e] at t
    exact t.symm.trans (by simp)
  · rw [List.map_take]
    exact List.Nodup.sublist (List.take_sublist _ _) h.nd
theorem SkOk.pre {a b : List Stp} (h : SkOk (a ++ b)) : SkOk a := by
  have := h.take a.length
  rwa [List.take_left] at this
theorem SkOk.nil : SkOk [] := ⟨fun pre s post e => by simp at e, .nil⟩
theorem formL_nd : (formL.map (·.1)).Nodup := by decide +kernel
theorem form_unique {w : Str} {z z' : List Nat} (h : (w, z) ∈ formL) (h' : (w, z') ∈ formL) : z = z' := by
  have key : ∀ (l : List (Str × List Nat)), (l.map (·.1)).Nodup → (w, z) ∈ l → (w, z') ∈ l → z = z' := by
    intro l
    induction l with
    | nil => intro _ h; cases h
    | cons a l ih =>
      intro nd h h'
      rw [List.map_cons, List.nodup_cons] at nd
      rcases List.mem_cons.mp h with e | h
      · rcases List.mem_cons.mp h' with e' | h'
        · rw [← e] at e'
          exact (Prod.mk.inj e').2.symm
        · exact absurd (List.mem_map.mpr ⟨_, h', by rw [← e]⟩) nd.1
      · rcases List.mem_cons.mp h' with e' | h'
        · exact absurd (List.mem_map.mpr ⟨_, h, by rw [← e']⟩) nd.1
        · exact ih nd.2 h h'
  exact key formL formL_nd h h'
theorem All2.two {R : Nat → O → Prop} {a b : Nat} {os : List O} (h : All2 R [a, b] os) : ∃ x y, os = [x, y] ∧ R a x ∧ R b y := by
  cases h with
  | cons r t =>
    cases t with
    | cons r' t =>
      cases t
      exact ⟨_, _, rfl, r, r'⟩
theorem All2.one {R : Nat → O → Prop} {a : Nat} {os : List O} (h : All2 R [a] os) : ∃ x, os = [x] ∧ R a x := by
  cases h with
  | cons r t =>
    cases t
    exact ⟨_, rfl, r⟩
theorem ItemOk.str {ss : List Stp} {c : Nat} {o : O} (h : ItemOk ss c o) (hc : c ≠ 110) (hc2 : c ≠ 107) : ∃ t ∈ ss, o = .s t.n ∧ sortC t.w = c := by
  cases h with
  | n => exact absurd rfl hc
  | k => exact absurd rfl hc2
  | s t => exact ⟨_, t, rfl, rfl⟩
theorem Fit.at {ss : List Stp} {s : Stp} (h : Fit ss s) {w : Str} {z : List Nat} (hw : s.w = w) (hz : (w, z) ∈ formL) : All2 (ItemOk ss) z s.os := by
  obtain ⟨z', h1, h2⟩ := h.form
  rw [hw] at h1
  rw [form_unique hz h1]
  exact h2
def OthOk (ss : List Stp) (t : Str × Str × Str) : Prop := ∃ l ∈ ss, ∃ c ∈ ss, c.w = "circle" ∧ t.1 = l.n ∧ t.2.1 = c.n ∧ (∃ m, c.os = [.s m, .s t.2.2]) ∧ Thru l t.2.2
end Sk
namespace Sk
open PySem PySem.Spec PyProof.Rows L2 Ly
def cellsU (U : List (List Str)) : Mem := U.map fun l => Cell.lst (l.map D.str)
def codeAt : Nat → Nat
  | 0 => 80
  | 1 => 76
  | _ => 67
structure Lf (b : Nat) (T : Mem) (ss : List Stp) (U : List (List Str)) (M : Mem) : Prop where
  dk : DkIs b (T ++ cellsU U) M
  len : U.length = 3
  sm : ∀ l ∈ U, l.length ≤ 100
  srt : ∀ i l, U[i]? = some l → ∀ x ∈ l, ∃ t ∈ ss, t.n = x ∧ sortC t.w = codeAt i
theorem Lf.at_ {b : Nat} {T M : Mem} {ss : List Stp} {U : List (List Str)} (h : Lf b T ss U M) {i : Nat} (hi : i < 3) : ∃ l, U[i]? = some l ∧ l ∈ U ∧ M[T.length + i + 2]? = some (.lst (l.map .str)) := by
  have hl : i < U.length := by rw [h.len]; exact hi
  refine ⟨U[i], List.getElem?_eq_getElem hl, List.getElem_mem hl, ?_⟩
  rw [h.dk.new]
  unfold cellsU
  rw [List.getElem?_map, List.getElem?_eq_getElem hl]
  rfl
theorem Lf.put {b : Nat} {T M : Mem} {ss : List Stp} {U : List (List Str)} (h : Lf b T ss U M) {i : Nat} {l : List Str} {ds : List D} (hd : ds = l.map .str) (hl : l.length ≤ 100) (hm : ∀ x ∈ l, ∃ t ∈ ss, t.n = x ∧ sortC t.w = codeAt i) : Lf b T ss (U.set i l) (M.set (T.length + i + 2) (.lst ds)) := by
  refine ⟨?_, by rw [List.length_set, h.len], fun k hk => ?_, fun j k hk => ?_⟩
  · have := h.dk.put i (.lst ds)
    rw [hd] at this ⊢
    unfold cellsU at this ⊢
    rw [List.map_set]
    exact this
  · rcases List.mem_or_eq_of_mem_set hk with z | z
    · exact h.sm k z
    · rw [z]
      exact hl
  · by_cases z : i = j
    · subst z
      have hlt : i < U.length := by
        have := (List.getElem?_eq_some_iff.mp hk).1
        rwa [List.length_set] at this
      rw [List.getElem?_set_self hlt] at hk
      cases hk
      exact hm
    · rw [List.getElem?_set_ne z] at hk
      exact h.srt j k hk
theorem form_other : (("other" : Str), [76, 67, 80]) ∈ formL := by decide +kernel
theorem SkOk.inj {ss : List Stp} (h : SkOk ss) {s t : Stp} (hs : s ∈ ss) (ht : t ∈ ss) (e : s.n = t.n) : s = t := by
  obtain ⟨i, hi⟩ := List.mem_iff_getElem?.mp hs
  obtain ⟨j, hj⟩ := List.mem_iff_getElem?.mp ht
  have h1 : (ss.map (·.n))[i]? = some s.n := by rw [List.getElem?_map, hi]; rfl
  have h2 : (ss.map (·.n))[j]? = some s.n := by rw [List.getElem?_map, hj, e]; rfl
  have := nodup_at h.nd h1 h2
  subst this
  rw [hi] at hj
  exact Option.some.inj hj
theorem thru_sort {l : Stp} {p : Str} (h : Thru l p) : sortC l.w = 76 := by
  rcases h with ⟨e, _⟩ | ⟨e | e, _⟩ <;> rw [e] <;> decide +kernel
theorem OthOk.fit {ss : List Stp} (hs : SkOk ss) {name : Str} (hnm : Az 1 8 name) {t : Str × Str × Str} (h : OthOk ss t) : Fit ss ⟨"other", name, [.s t.1, .s t.2.1, .s t.2.2]⟩ := by
  obtain ⟨l, hl, c, hc, cw, e1, e2, ⟨m, eo⟩, th⟩ := h
  obtain ⟨x, y, e, _, hy⟩ := ((hs.mem hc).at cw (z := [80, 80]) (by decide +kernel)).two
  rw [eo] at e
  cases e
  obtain ⟨u, hu, e3, hu2⟩ := hy.str (by decide) (by decide)
  have e3 : t.2.2 = u.n := by injection e3
  have cs : sortC c.w = 67 := by rw [cw]; decide +kernel
  have ls := thru_sort th
  have n12 : l.n ≠ c.n := fun z => by
    have := hs.inj hl hc z
    rw [this, cs] at ls
    cases ls
  have n13 : l.n ≠ u.n := fun z => by
    have := hs.inj hl hu z
    rw [this, hu2] at ls
    cases ls
  have n23 : c.n ≠ u.n := fun z => by
    have := hs.inj hc hu z
    rw [this, hu2] at cs
    cases cs
  refine ⟨hnm, ⟨[76, 67, 80], form_other, .cons ?_ (.cons ?_ (.cons ?_ .nil))⟩, ?_, fun _ => ⟨l, hl, c, hc, t.2.2, m, by rw [e1, e2], cw, eo, th⟩⟩
  · rw [e1, ← ls]
    exact .s hl
  · rw [e2, ← cs]
    exact .s hc
  · rw [e3, ← hu2]
    exact .s hu
  · show [t.1, t.2.1, t.2.2].Nodup
    rw [e1, e2, e3]
    simp [n12, n13, n23]
end Sk
namespace Sk
open PySem PySem.Spec PyProof.Rows L2 Ly
structure Good (xs : List Str) (ss : List Stp) : Prop where
  ok : SkOk ss
  ns : ss.map (·.n) = xs.take ss.length
  le : ss.length ≤ 16
  two : ∀ (i : Nat) (s : Stp), i < 2 → ss[i]? = some s → s.w = "free" ∧ s.os = []
theorem Good.take {xs : List Str} {ss : List Stp} (h : Good xs ss) (k : Nat) : Good xs (ss.take k) := by
  refine ⟨h.ok.take k, ?_, by rw [List.length_take]; have := h.le; omega, fun i s hi hs => ?_⟩
  · rw [List.map_take, h.ns, List.take_take, List.length_take]
  · have hk : i < k := by
      have := (List.getElem?_eq_some_iff.mp hs).1
      rw [List.length_take] at this
      omega
    rw [List.getElem?_take_of_lt hk] at hs
    exact h.two i s hi hs
theorem Good.nil {xs : List Str} : Good xs [] := ⟨SkOk.nil, rfl, by decide, fun i s _ h => by simp at h⟩
end Sk
namespace Wd
open PySem
end Wd
namespace Sk
open PySem PySem.Spec PyProof.Rows L2 Ly
theorem go_notV {a : ME} {env : Ly.Env} {M : Mem} {Q : D → Mem → Prop} : Go (mNotV a env M) Q = Go (a env M) fun d M1 => ∃ c, d = .bl c ∧ Q (.bl (!c)) M1 := by
  unfold mNotV
  rw [go_bind]
  congr 1
  funext d M1
  refine propext ⟨fun h => ?_, ?_⟩
  · split at h
    · exact ⟨_, rfl, h⟩
    · exact h.elim
  · rintro ⟨c, rfl, h⟩
    exact h
end Sk
namespace Sk
open PySem PySem.Spec PyProof.Rows L2 Ly
theorem os_le {ss : List Stp} {s : Stp} (h : Fit ss s) : s.os.length ≤ 3 := by
  obtain ⟨z, h1, h2⟩ := h.form
  rw [← h2.length]
  have key : ∀ p ∈ formL, p.2.length ≤ 3 := by decide +kernel
  exact key _ h1
end Sk
namespace Sk
open PySem PySem.Spec PyProof.Rows L2 Ly
end Sk
namespace Sk
open PySem PySem.Spec PyProof.Rows L2 Ly
def oS : O → Str
  | .s x => x
  | .i k => Str.ofString (toString k)
def wsS (s : Stp) : List Str := s.w :: s.n :: s.os.map oS
def Wok (x : Str) : Prop := Az 1 8 x ∨ x = "0" ∨ x = "1" ∨ x = "2" ∨ x = "3"
theorem Wok.len {x : Str} (h : Wok x) : x.length ≤ 8 := by
  rcases h with h | rfl | rfl | rfl | rfl
  · exact h.hi
  all_goals decide +kernel
theorem Wok.free {x : Str} (h : Wok x) : 32 ∉ TL.tl x ∧ 10 ∉ TL.tl x := by
  rcases h with h | rfl | rfl | rfl | rfl
  · exact ⟨fun z => by have := h.az _ z; omega, fun z => by have := h.az _ z; omega⟩
  all_goals decide +kernel
theorem word_az : ∀ p ∈ formL, Az 1 8 p.1 := by decide +kernel
theorem item_ok {ss : List Stp} (hn : ∀ s ∈ ss, Az 1 8 s.n) {c : Nat} {o : O} (h : ItemOk ss c o) : Wok (oS o) := by
  cases h with
  | n h1 h2 =>
    rename_i k
    have : k = 1 ∨ k = 2 ∨ k = 3 := by omega
    rcases this with rfl | rfl | rfl
    · exact .inr (.inr (.inl rfl))
    · exact .inr (.inr (.inr (.inl rfl)))
    · exact .inr (.inr (.inr (.inr rfl)))
  | k h1 h2 =>
    rename_i k
    have : k = 0 ∨ k = 1 := by omega
    rcases this with rfl | rfl
    · exact .inr (.inl rfl)
    · exact .inr (.inr (.inl rfl))
  | s t => exact .inl (hn _ t)
structure WrOk (s : Stp) : Prop where
  ws : ∀ x ∈ wsS s, Wok x
  le : s.os.length ≤ 3
  is : ∀ k, O.i k ∈ s.os → 0 ≤ k ∧ k ≤ 3
  az : ∀ x, O.s x ∈ s.os → Az 1 8 x
  w : Az 1 8 s.w
  n : Az 1 8 s.n
theorem fit_az {ss : List Stp} (ok : SkOk ss) : ∀ s ∈ ss, Az 1 8 s.n := fun s hs => (ok.mem hs).nm
theorem Fit.wr {ss : List Stp} {s : Stp} (ok : SkOk ss) (h : Fit ss s) : WrOk s := by
  obtain ⟨z, hz, hit⟩ := h.form
  refine ⟨fun x hx => ?_, os_le h, fun k hk => ?_, fun x hx => ?_, word_az _ hz, h.nm⟩
  · rcases List.mem_cons.mp hx with rfl | hx
    · exact .inl (word_az _ hz)
    rcases List.mem_cons.mp hx with rfl | hx
    · exact .inl h.nm
    obtain ⟨o, ho, rfl⟩ := List.mem_map.mp hx
    obtain ⟨c, _, hc⟩ := hit.right o ho
    exact item_ok (fit_az ok) hc
  · obtain ⟨c, _, hc⟩ := hit.right _ hk
    cases hc <;> omega
  · obtain ⟨c, _, hc⟩ := hit.right _ hx
    cases hc with
    | s t => exact fit_az ok _ t
end Sk
namespace Sk
open PySem PySem.Spec PyProof.Rows L2 Ly
end Sk
namespace Sk
open PySem PySem.Spec PyProof.Rows L2 Ly
theorem SkOk.new {pre post : List Stp} {s : Stp} (ok : SkOk (pre ++ s :: post)) : s.n ∉ pre.map (·.n) := by
  have nd := ok.nd
  rw [List.map_append, List.nodup_append] at nd
  intro z
  exact nd.2.2 _ z _ (by simp) rfl
end Sk
namespace Sk
open PySem PySem.Spec PyProof.Rows L2 Ly
theorem Wok.low {x : Str} (h : Wok x) : ∀ c ∈ TL.tl x, c < 128 := by
  rcases h with h | rfl | rfl | rfl | rfl
  · exact fun c hc => by have := h.az c hc; omega
  all_goals decide +kernel
end Sk
namespace Sk
open PySem PySem.Spec PyProof.Rows L2 Ly
section
variable {M : Mem} {d : D} {Q : D → Mem → Prop}
end
end Sk
namespace Sk
open PySem PySem.Spec PyProof.Rows L2 Ly
end Sk
namespace Sk
open PySem PySem.Spec PyProof.Rows L2 Ly
end Sk
namespace Sk
open PySem PySem.Spec PyProof.Rows L2 Ly
end Sk
namespace Sk
open PySem PySem.Spec PyProof.Rows L2 Ly
end Sk
namespace Sk
open PySem PySem.Spec PyProof.Rows L2 Ly
end Sk
namespace Sk
open PySem PySem.Spec PyProof.Rows L2 Ly
end Sk
namespace Sk
open PySem PySem.Spec PyProof.Rows L2 Ly
end Sk
namespace Sk
open PySem PySem.Spec PyProof.Rows L2 Ly
inductive Pn (j : Nat) : Nat → D → Prop
  | non {e : Nat} : Pn j e .non
  | bl {e : Nat} {b : Bool} : Pn j e (.bl b)
  | int {e : Nat} {i : Int} : i.natAbs ≤ 10 ^ 40 + j → Pn j e (.int i)
  | str {e : Nat} {x : Str} : (∀ c ∈ x.cps.toList, c < 128) → Pn j e (.str x)
  | tup {e : Nat} {ds : List D} : (∀ d ∈ ds, Pn j e d) → Pn j (e + 1) (.tup ds)
  | lst {e : Nat} {ds : List D} : (∀ d ∈ ds, Pn j e d) → Pn j (e + 1) (.lst ds)
  | dic {e : Nat} : Pn j (e + 1) (.dic [])
theorem Pn.up {j e : Nat} {d : D} (h : Pn j e d) : Pn (j + 1) (e + 1) d := by
  induction h with
  | non => exact .non
  | bl => exact .bl
  | int h => exact .int (by omega)
  | str h => exact .str h
  | tup _ ih => exact .tup ih
  | lst _ ih => exact .lst ih
  | dic => exact .dic
theorem Pn.mono {j e j' e' : Nat} {d : D} (h : Pn j e d) (hj : j ≤ j') (he : e ≤ e') : Pn j' e' d := by
  induction h generalizing e' with
  | non => exact .non
  | bl => exact .bl
  | int h => exact .int (by omega)
  | str h => exact .str h
  | tup _ ih =>
    obtain ⟨e'', rfl⟩ : ∃ k, e' = k + 1 := ⟨e' - 1, by omega⟩
    exact .tup fun d hd => ih d hd (by omega)
  | lst _ ih =>
    obtain ⟨e'', rfl⟩ : ∃ k, e' = k + 1 := ⟨e' - 1, by omega⟩
    exact .lst fun d hd => ih d hd (by omega)
  | dic =>
    obtain ⟨e'', rfl⟩ : ∃ k, e' = k + 1 := ⟨e' - 1, by omega⟩
    exact .dic
def wX (d : D) : Nat := match pdX d with
  | some p => p.weight
  | none => 0
def sX (ds : List D) : Nat := (ds.map fun d => wX d + 1).sum
structure OkP (e : Nat) (d : D) (p : PyData) : Prop where
  pd : pdX d = some p
  sh : p.showable = true
  de : p.depth ≤ e
  le : p.leavesShort 60 = true
theorem ok_all {e : Nat} : ∀ {ds : List D}, (∀ d ∈ ds, ∃ p, OkP e d p) → ∃ ps, pdXA ds = some ps ∧ PyData.showableAll ps = true ∧ PyData.depthAll ps ≤ e ∧ PyData.leavesShortAll 60 ps = true ∧ PyData.weightAll ps = sX ds
  | [], _ => ⟨[], rfl, rfl, Nat.zero_le _, rfl, rfl⟩
  | d :: ds, h => by
    obtain ⟨p, hp⟩ := h d List.mem_cons_self
    obtain ⟨ps, h1, h2, h3, h4, h5⟩ := ok_all (ds := ds) fun x hx => h x (List.mem_cons_of_mem _ hx)
    refine ⟨p :: ps, ?_, ?_, ?_, ?_, ?_⟩
    · unfold pdXA
      rw [hp.pd, h1]
      rfl
    · show (p.showable && PyData.showableAll ps) = true
      rw [hp.sh, h2]
      rfl
    · show max p.depth (PyData.depthAll ps) ≤ e
      exact Nat.max_le.mpr ⟨hp.de, h3⟩
    · show (p.leavesShort 60 && PyData.leavesShortAll 60 ps) = true
      rw [hp.le, h4]
      rfl
    · show p.weight + 1 + PyData.weightAll ps = wX d + 1 + sX ds
      unfold wX
      rw [hp.pd, h5]
theorem Pn.ok {j e : Nat} {d : D} (hj : j ≤ 1000) (h : Pn j e d) : ∃ p, OkP e d p := by
  induction h with
  | non => exact ⟨.none, rfl, rfl, Nat.zero_le _, rfl⟩
  | bl => exact ⟨.bool _, rfl, rfl, Nat.zero_le _, rfl⟩
  | @int e i h =>
    have b : i.natAbs < 10 ^ 59 := Nat.lt_of_le_of_lt h (by
      have : (10 : Nat) ^ 40 + j ≤ 10 ^ 40 + 1000 := by omega
      exact Nat.lt_of_le_of_lt this (by decide))
    obtain ⟨p, h1, h2, h3, h4, _⟩ := rp_int b
    cases h1
    exact ⟨_, rfl, h2, Nat.le_trans h3 (Nat.zero_le _), h4⟩
  | @str e x h =>
    obtain ⟨p, h1, h2, h3, h4, _⟩ := rp_str (n := x.cps.size) ⟨Nat.le_refl _, h⟩
    cases h1
    exact ⟨_, rfl, h2, Nat.le_trans h3 (Nat.zero_le _), h4⟩
  | tup _ ih =>
    obtain ⟨ps, h1, h2, h3, h4, _⟩ := ok_all ih
    refine ⟨.tuple ps, ?_, h2, ?_, h4⟩
    · show (pdXA _).map PyData.tuple = _
      rw [h1]
      rfl
    · show PyData.depthAll ps + 1 ≤ _
      omega
  | lst _ ih =>
    obtain ⟨ps, h1, h2, h3, h4, _⟩ := ok_all ih
    refine ⟨.list ps, ?_, h2, ?_, h4⟩
    · show (pdXA _).map PyData.list = _
      rw [h1]
      rfl
    · show PyData.depthAll ps + 1 ≤ _
      omega
  | dic => exact ⟨.dict [], rfl, rfl, by show PyData.depthKv [] + 1 ≤ _; exact Nat.succ_le_succ (Nat.zero_le _), rfl⟩
theorem sX_app (a b : List D) : sX (a ++ b) = sX a + sX b := by
  unfold sX
  rw [List.map_append, List.sum_append]
theorem sX_mem : ∀ {ds : List D} {d : D}, d ∈ ds → wX d + 1 ≤ sX ds
  | x :: ds, d, h => by
    show _ ≤ wX x + 1 + sX ds
    rcases List.mem_cons.mp h with rfl | h
    · omega
    · have := sX_mem h
      omega
theorem sX_len (ds : List D) : ds.length ≤ sX ds := by
  induction ds with
  | nil => exact Nat.zero_le _
  | cons d ds ih =>
    show ds.length + 1 ≤ wX d + 1 + sX ds
    omega
theorem sX_cut (ds : List D) (k : Nat) : sX (ds.take k) + sX (ds.drop k) = sX ds := by
  rw [← sX_app, List.take_append_drop]
theorem sX_rev (ds : List D) : sX ds.reverse = sX ds := by
  induction ds with
  | nil => rfl
  | cons d ds ih =>
    rw [List.reverse_cons, sX_app, ih]
    show sX ds + (wX d + 1 + 0) = wX d + 1 + sX ds
    omega
def shX (d : D) : Str := match pdX d with
  | some p => p.shown
  | none => ""
end Sk
namespace Su
open PySem PySem.Spec PyProof.Rows L2 Ly
open Sk
inductive Pq (j : Nat) : Nat → D → Prop
  | non {e : Nat} : Pq j e .non
  | bl {e : Nat} {b : Bool} : Pq j e (.bl b)
  | int {e : Nat} {i : Int} : i.natAbs ≤ 10 ^ 40 + j → Pq j e (.int i)
  | str {e : Nat} {x : Str} : (∀ c ∈ x.cps.toList, c < 128) → Pq j e (.str x)
  | tup {e : Nat} {ds : List D} : (∀ d ∈ ds, Pq j e d) → Pq j (e + 1) (.tup ds)
  | ftu {e : Nat} {ds : List D} : (∀ d ∈ ds, Pq j e d) → Pq j (e + 1) (.ftu ds)
  | lst {e : Nat} {ds : List D} : (∀ d ∈ ds, Pq j e d) → Pq j (e + 1) (.lst ds)
  | dic {e : Nat} : Pq j (e + 1) (.dic [])
theorem Pq.up {j e : Nat} {d : D} (h : Pq j e d) : Pq (j + 1) (e + 1) d := by
  induction h with
  | non => exact .non
  | bl => exact .bl
  | int h => exact .int (by omega)
  | str h => exact .str h
  | tup _ ih => exact .tup ih
  | ftu _ ih => exact .ftu ih
  | lst _ ih => exact .lst ih
  | dic => exact .dic
theorem Pq.mono {j e j' e' : Nat} {d : D} (h : Pq j e d) (hj : j ≤ j') (he : e ≤ e') : Pq j' e' d := by
  induction h generalizing e' with
  | non => exact .non
  | bl => exact .bl
  | int h => exact .int (by omega)
  | str h => exact .str h
  | tup _ ih =>
    obtain ⟨e'', rfl⟩ : ∃ k, e' = k + 1 := ⟨e' - 1, by omega⟩
    exact .tup fun d hd => ih d hd (by omega)
  | ftu _ ih =>
    obtain ⟨e'', rfl⟩ : ∃ k, e' = k + 1 := ⟨e' - 1, by omega⟩
    exact .ftu fun d hd => ih d hd (by omega)
  | lst _ ih =>
    obtain ⟨e'', rfl⟩ : ∃ k, e' = k + 1 := ⟨e' - 1, by omega⟩
    exact .lst fun d hd => ih d hd (by omega)
  | dic =>
    obtain ⟨e'', rfl⟩ : ∃ k, e' = k + 1 := ⟨e' - 1, by omega⟩
    exact .dic
theorem Pq.ok {j e : Nat} {d : D} (hj : j ≤ 1000) (h : Pq j e d) : ∃ p, OkP e d p := by
  induction h with
  | non => exact ⟨.none, rfl, rfl, Nat.zero_le _, rfl⟩
  | bl => exact ⟨.bool _, rfl, rfl, Nat.zero_le _, rfl⟩
  | @int e i h =>
    have b : i.natAbs < 10 ^ 59 := Nat.lt_of_le_of_lt h (by
      have : (10 : Nat) ^ 40 + j ≤ 10 ^ 40 + 1000 := by omega
      exact Nat.lt_of_le_of_lt this (by decide))
    obtain ⟨p, h1, h2, h3, h4, _⟩ := rp_int b
    cases h1
    exact ⟨_, rfl, h2, Nat.le_trans h3 (Nat.zero_le _), h4⟩
  | @str e x h =>
    obtain ⟨p, h1, h2, h3, h4, _⟩ := rp_str (n := x.cps.size) ⟨Nat.le_refl _, h⟩
    cases h1
    exact ⟨_, rfl, h2, Nat.le_trans h3 (Nat.zero_le _), h4⟩
  | tup _ ih =>
    obtain ⟨ps, h1, h2, h3, h4, _⟩ := ok_all ih
    refine ⟨.tuple ps, ?_, h2, ?_, h4⟩
    · show (pdXA _).map PyData.tuple = _
      rw [h1]
      rfl
    · show PyData.depthAll ps + 1 ≤ _
      omega
  | ftu _ ih =>
    obtain ⟨ps, h1, h2, h3, h4, _⟩ := ok_all ih
    refine ⟨.tuple ps, ?_, h2, ?_, h4⟩
    · show (pdXA _).map PyData.tuple = _
      rw [h1]
      rfl
    · show PyData.depthAll ps + 1 ≤ _
      omega
  | lst _ ih =>
    obtain ⟨ps, h1, h2, h3, h4, _⟩ := ok_all ih
    refine ⟨.list ps, ?_, h2, ?_, h4⟩
    · show (pdXA _).map PyData.list = _
      rw [h1]
      rfl
    · show PyData.depthAll ps + 1 ≤ _
      omega
  | dic => exact ⟨.dict [], rfl, rfl, by show PyData.depthKv [] + 1 ≤ _; exact Nat.succ_le_succ (Nat.zero_le _), rfl⟩
theorem qX_tup {j e : Nat} {ds : List D} (hj : j ≤ 1000) (h : ∀ d ∈ ds, Pq j e d) : wX (.tup ds) = sX ds := by
  obtain ⟨ps, h1, _, _, _, h5⟩ := ok_all fun d hd => (h d hd).ok hj
  unfold wX
  rw [show pdX (.tup ds) = (pdXA ds).map PyData.tuple from by simp only [pdX], h1]
  exact h5
theorem qX_ftu {j e : Nat} {ds : List D} (hj : j ≤ 1000) (h : ∀ d ∈ ds, Pq j e d) : wX (.ftu ds) = sX ds := by
  obtain ⟨ps, h1, _, _, _, h5⟩ := ok_all fun d hd => (h d hd).ok hj
  unfold wX
  rw [show pdX (.ftu ds) = (pdXA ds).map PyData.tuple from by simp only [pdX], h1]
  exact h5
theorem qX_lst {j e : Nat} {ds : List D} (hj : j ≤ 1000) (h : ∀ d ∈ ds, Pq j e d) : wX (.lst ds) = sX ds := by
  obtain ⟨ps, h1, _, _, _, h5⟩ := ok_all fun d hd => (h d hd).ok hj
  unfold wX
  rw [show pdX (.lst ds) = (pdXA ds).map PyData.list from by simp only [pdX], h1]
  exact h5
theorem go_shQ {M : Mem} {j e : Nat} {d : D} {Q : D → Mem → Prop} (h : Pq j e d) (hj : j ≤ 1000) (he : e ≤ 60) (hw : wX d ≤ 16000) : Go (fReprX [d] M) Q = Q (.str (shX d)) M := by
  obtain ⟨p, hp⟩ := h.ok hj
  have len := PyData.shown_le 60 (by decide) p hp.le
  have e1 : wX d = p.weight := by
    unfold wX
    rw [hp.pd]
  have pm : pdXM M d = some p := by
    have hpd := hp.pd
    cases d with
    | ref n => simp only [pdX] at hpd; cases hpd
    | _ => exact hpd
  have e2 : fReprX [d] M = .ok (.str p.shown) M := by
    have c : (p.showable && decide (p.depth ≤ 60) && decide (p.shown.length ≤ 1000000)) = true := by
      rw [hp.sh, decide_eq_true (Nat.le_trans hp.de he), decide_eq_true (by omega)]
      rfl
    unfold fReprX
    simp only [pm, c, if_true]
  rw [e2]
  unfold shX
  rw [hp.pd]
  rfl
end Su
namespace Su
open PySem PySem.Spec PyProof.Rows L2 Ly
open Sk (OkP ok_all wX sX sX_app sX_mem sX_len sX_cut sX_rev shX)
theorem bls_map : ∀ bs : List Bool, blsOf (bs.map D.bl) = some bs
  | [] => rfl
  | b :: bs => by
    show (blsOf (bs.map D.bl)).map (fun r => b :: r) = _
    rw [bls_map bs]
    rfl
theorem go_boolsS {f : List Bool → Bool} {bs : List Bool} {M : Mem} {Q : D → Mem → Prop} (q : Q (.bl (f bs)) M) : Go (fBools f [.lst (bs.map .bl)] M) Q := by
  have e : fBools f [.lst (bs.map .bl)] M = .ok (.bl (f bs)) M := by
    unfold fBools
    have e2 : (lstOf (.lst (bs.map .bl)) M).bind blsOf = some bs := bls_map bs
    simp only [e2]
  rw [e]
  exact q
theorem go_notV {a : ME} {env : Ly.Env} {M : Mem} {Q : D → Mem → Prop} : Go (mNotV a env M) Q = Go (a env M) fun d M1 => ∃ c, d = .bl c ∧ Q (.bl (!c)) M1 := by
  unfold mNotV
  rw [go_bind]
  congr 1
  funext d M1
  refine propext ⟨fun h => ?_, ?_⟩
  · split at h
    · exact ⟨_, rfl, h⟩
    · exact h.elim
  · rintro ⟨c, rfl, h⟩
    exact h
def whB : D → Bool
  | .int _ => true
  | _ => false
def nnB : D → Bool
  | .int i => decide (0 ≤ i)
  | _ => false
def nzB : D → Bool
  | .int i => decide (i ≠ 0)
  | _ => false
def pwB (k : Nat) (d : D) : Bool := match tupV d with
  | some ds => decide (ds.length = k) && ds.all nnB
  | none => false
def twoB (d : D) : Bool := match tupV d with
  | some ds => decide (ds.length = 2)
  | none => false
def paB (k : Nat) (d : D) : Bool := match tupV d with
  | some [p, n] => pwB k p && nzB n
  | _ => false
def rowD (d : D) : Row := match tupV d with
  | some (p :: _) => (match tupV p with
    | some xs => (intsOf xs).getD []
    | none => [])
  | _ => []
def riB (ds : List D) : Bool := (ds.zip (ds.drop 1)).all fun p => ltInts (rowD p.1) (rowD p.2)
def suB (k : Nat) (d : D) : Bool := match tupV d with
  | some ds => ds.all (paB k) && riB ds
  | none => false
section
variable {M : Mem} {Q : D → Mem → Prop} {j e k : Nat} {d : D}
theorem isi_tupQ (h : Pq j e d) : Go (fIsi [d, .ty "tuple"] M) Q = Q (.bl (tupV d).isSome) M := by
  cases h <;> rfl
theorem isi_intQ (h : Pq j e d) : Go (fIsi [d, .ty "int"] M) Q = Q (.bl (match d with | .int _ => true | .bl _ => true | _ => false)) M := by
  cases h <;> rfl
theorem isi_boolQ (h : Pq j e d) : Go (fIsi [d, .ty "bool"] M) Q = Q (.bl (match d with | .bl _ => true | _ => false)) M := by
  cases h <;> rfl
theorem is_whole_ok (h : Pq j e d) (q : Q (.bl (whB d)) M) : Go (f_is_whole [d] M) Q := by
  unfold f_is_whole
  rw [go_callD]
  show GoS (m_is_whole [some d] M) _ _
  unfold m_is_whole
  simp only [go_bin, go_un, go_var, go_c, go_test, go_andT, go_orT, go_notT, go_yes, go_andV, go_if, go_nil, go_cons, go_tup, go_lst, go_lstC, go_cb, go_call, go_callW, go_meth, go_noPart, go_part, go_sl, go_get, go_retN, go_lc, go_dc, go_iter, go_enum, go_rng, go_rng1, go_rng2, go_rng3, go_disp, go_pnil, go_pcons, go_bdT, go_bdF, go_ok, go_nx, go_rt, go_addI, go_addS, go_addT, go_addL, go_subI, go_mulI, go_mulL, go_modI, go_fdivI, go_powI, go_ltI, go_leI, go_gtI, go_geI, go_eqI, go_eqS, go_neI, go_neS, go_ixF, go_ixT, go_ixS, go_ixD, go_slT, go_slF, go_slR, go_slS, go_revF, go_revCF, go_revAT, go_revAL, List.getElem?_cons_zero, List.getElem?_cons_succ, List.set_cons_zero, List.set_cons_succ, List.length_cons, List.length_nil, D.int.injEq, D.bl.injEq, D.str.injEq, Option.some.injEq, exists_eq_left', go_listF, go_listT, go_tupleF, go_tupleT, go_lenF, go_lenT, go_lenS, go_isiS, go_isiI, go_intI, go_intB, go_maxI, it_lst, it_tupD, it_strD, en_lst, en_tup, fr_gN, wipeD, go_inTab, go_notInTab, go_tab, go_lc2, go_par2, go_par3, go_asg, go_isB, go_tell, go_kget, go_notB, go_slStep, go_slStepT, go_dictZip, go_setEq, go_ret, go_notV, isi_intQ h, isi_boolQ h]
  have fin : ∀ b, Q (.bl b) M → Go (Ly.finish M (.bl b) M) Q := fun b q => go_fin_same rfl q
  cases h <;> exact fin _ q
theorem is_powers_ok (h : Pq j e d) (hj : j ≤ 1000) (hw : wX d ≤ 16000) (q : Q (.bl (pwB k d)) M) : Go (f_is_powers [.int (k : Nat), d] M) Q := by
  unfold f_is_powers
  rw [go_callD]
  show GoS (m_is_powers [some (.int (k : Nat)), some d, none] M) _ _
  unfold m_is_powers
  have fin : ∀ b, Q (.bl b) M → Go (Ly.finish M (.bl b) M) Q := fun b q => go_fin_same rfl q
  simp only [go_bin, go_un, go_var, go_c, go_test, go_andT, go_orT, go_notT, go_yes, go_andV, go_if, go_nil, go_cons, go_tup, go_lst, go_lstC, go_cb, go_call, go_callW, go_meth, go_noPart, go_part, go_sl, go_get, go_retN, go_lc, go_dc, go_iter, go_enum, go_rng, go_rng1, go_rng2, go_rng3, go_disp, go_pnil, go_pcons, go_bdT, go_bdF, go_ok, go_nx, go_rt, go_addI, go_addS, go_addT, go_addL, go_subI, go_mulI, go_mulL, go_modI, go_fdivI, go_powI, go_ltI, go_leI, go_gtI, go_geI, go_eqI, go_eqS, go_neI, go_neS, go_ixF, go_ixT, go_ixS, go_ixD, go_slT, go_slF, go_slR, go_slS, go_revF, go_revCF, go_revAT, go_revAL, List.getElem?_cons_zero, List.getElem?_cons_succ, List.set_cons_zero, List.set_cons_succ, List.length_cons, List.length_nil, D.int.injEq, D.bl.injEq, D.str.injEq, Option.some.injEq, exists_eq_left', go_listF, go_listT, go_tupleF, go_tupleT, go_lenF, go_lenT, go_lenS, go_isiS, go_isiI, go_intI, go_intB, go_maxI, it_lst, it_tupD, it_strD, en_lst, en_tup, fr_gN, wipeD, go_inTab, go_notInTab, go_tab, go_lc2, go_par2, go_par3, go_asg, go_isB, go_tell, go_kget, go_notB, go_slStep, go_slStepT, go_dictZip, go_setEq, go_ret, isi_tupQ h]
  have yes : ∀ ds : List D, tupV d = some ds → (∀ x ∈ ds, Pq j (e - 1) x) → ds.length ≤ 16000 → fLen [d] M = .ok (.int (ds.length : Nat)) M → itemsOf d M = some ⟨ds, fun _ => True⟩ →
      Go (fLen [d] M) (fun d1 M1 => Go (opEq d1 (.int (k : Nat)) M1) fun d_1 M1 => ∃ c, d_1 = D.bl c ∧ if c = true then ∃ t, itemsOf d M1 = some t ∧ Go (compL (gN 2) mYes (mAndV (mCall 1 f_is_whole (mCons (mVar 2) mNil)) (mBin opGe (mVar 2) (mC (D.int 0)))) t.chk [some (D.int (k : Nat)), some d, none] t.items [] M1) (fun ds M1 => Go (fBools (fun bs => bs.all id) [D.lst ds] M1) fun d M' => Go (Ly.finish M d M') Q) else Go (Ly.finish M (D.bl false) M1) Q) := by
    intro ds hd hp hl h1 h2
    rw [h1, go_ok, go_eqI]
    refine ⟨_, rfl, ?_⟩
    have e0 : pwB k d = (decide (ds.length = k) && ds.all nnB) := by
      unfold pwB
      rw [hd]
    by_cases hk : ds.length = k
    · rw [if_pos (decide_eq_true (by omega))]
      refine ⟨_, h2, ?_⟩
      have e1 : ds = ds.map id := by rw [List.map_id]
      dsimp only
      rw [e1]
      refine cp_pure (h := fun x => D.bl (nnB x)) trivial ds [] (by rw [List.length_nil]; omega) (fun x hx => ⟨_, rfl, fun K hK => ?_⟩) ?_
      · rw [go_andV]
        simp only [go_bin, go_un, go_var, go_c, go_test, go_andT, go_orT, go_notT, go_yes, go_andV, go_if, go_nil, go_cons, go_tup, go_lst, go_lstC, go_cb, go_call, go_callW, go_meth, go_noPart, go_part, go_sl, go_get, go_retN, go_lc, go_dc, go_iter, go_enum, go_rng, go_rng1, go_rng2, go_rng3, go_disp, go_pnil, go_pcons, go_bdT, go_bdF, go_ok, go_nx, go_rt, go_addI, go_addS, go_addT, go_addL, go_subI, go_mulI, go_mulL, go_modI, go_fdivI, go_powI, go_ltI, go_leI, go_gtI, go_geI, go_eqI, go_eqS, go_neI, go_neS, go_ixF, go_ixT, go_ixS, go_ixD, go_slT, go_slF, go_slR, go_slS, go_revF, go_revCF, go_revAT, go_revAL, List.getElem?_cons_zero, List.getElem?_cons_succ, List.set_cons_zero, List.set_cons_succ, List.length_cons, List.length_nil, D.int.injEq, D.bl.injEq, D.str.injEq, Option.some.injEq, exists_eq_left', go_listF, go_listT, go_tupleF, go_tupleT, go_lenF, go_lenT, go_lenS, go_isiS, go_isiI, go_intI, go_intB, go_maxI, it_lst, it_tupD, it_strD, en_lst, en_tup, fr_gN, wipeD, go_inTab, go_notInTab, go_tab, go_lc2, go_par2, go_par3, go_asg, go_isB, go_tell, go_kget, go_notB, go_slStep, go_slStepT, go_dictZip, go_setEq, List.set_cons_zero, List.set_cons_succ, true_and, id]
        refine is_whole_ok (hp x hx) ⟨_, rfl, ?_⟩
        cases x with
        | int i => exact hK
        | _ => exact hK
      · rw [List.nil_append, show ds.map (fun x => D.bl (nnB x)) = (ds.map nnB).map D.bl by rw [List.map_map]; rfl]
        refine go_boolsS (fin _ ?_)
        rw [e0, decide_eq_true hk, Bool.true_and] at q
        rw [List.all_map]
        exact q
    · rw [if_neg (by rw [decide_eq_false (show ¬ ((ds.length : Nat) : Int) = ((k : Nat) : Int) by omega)]; decide)]
      refine fin _ ?_
      rw [e0, decide_eq_false hk, Bool.false_and] at q
      exact q
  have no : pwB k d = false → Go (Ly.finish M (.bl false) M) Q := fun e0 => fin _ (e0 ▸ q)
  cases h with
  | @tup e0 ds hds =>
    rw [qX_tup hj hds] at hw
    exact yes ds rfl hds (Nat.le_trans (sX_len ds) hw) rfl rfl
  | @ftu e0 ds hds =>
    rw [qX_ftu hj hds] at hw
    exact yes ds rfl hds (Nat.le_trans (sX_len ds) hw) rfl rfl
  | _ => exact no rfl
end
end Su
namespace Su
open PySem PySem.Spec PyProof.Rows L2 Ly
open Sk (OkP ok_all wX sX sX_app sX_mem sX_len sX_cut sX_rev shX)
structure View (j e : Nat) (d : D) (ds : List D) : Prop where
  all : ∀ x ∈ ds, Pq j e x
  w : wX d = sX ds
  it : ∀ M, itemsOf d M = some ⟨ds, fun _ => True⟩
  ln : ∀ M, fLen [d] M = .ok (.int (ds.length : Nat)) M
  tg : ∀ gs env, gTf gs d env = gTs gs ds env
  ix : ∀ (i : Int) (v : D) (M : Mem), atI ds i = some v → opIx d (.int i) M = .ok v M
  sl : ∀ M, ∃ d2, opSl d (some 1) none M = .ok d2 M ∧ itemsOf d2 M = some ⟨ds.drop 1, fun _ => True⟩
theorem cut1 (ds : List D) : Ly.cutD ds (some 1) none = ds.drop 1 := by
  have h := cut_from ds 1
  exact h
theorem Pq.view {j e : Nat} {d : D} {ds : List D} (h : Pq j e d) (hj : j ≤ 1000) (ht : tupV d = some ds) : ∃ e', e = e' + 1 ∧ View j e' d ds := by
  cases h with
  | @tup e0 ds0 hds =>
    cases ht
    refine ⟨e0, rfl, hds, qX_tup hj hds, fun _ => rfl, fun _ => rfl, fun _ _ => rfl, fun i v M hv => ?_, fun M => ⟨_, rfl, ?_⟩⟩
    · show (match atI ds i with
        | some v => Res.ok v M
        | none => .bad) = _
      rw [hv]
    · rw [cut1]
      rfl
  | @ftu e0 ds0 hds =>
    cases ht
    refine ⟨e0, rfl, hds, qX_ftu hj hds, fun _ => rfl, fun _ => rfl, fun _ _ => rfl, fun i v M hv => ?_, fun M => ?_⟩
    · show (match atI ds i with
        | some v => Res.ok v M
        | none => .bad) = _
      rw [hv]
    · by_cases hc : HT.sIx ds.length 0 (some 1) = 0 ∧ HT.sIx ds.length ds.length none = ds.length
      · refine ⟨.ftu ds, if_pos hc, ?_⟩
        have : ds.drop 1 = ds := by
          have e := cut1 ds
          unfold Ly.cutD at e
          rw [hc.1, hc.2, List.drop_zero, Nat.sub_zero, List.take_length] at e
          exact e.symm
        rw [this]
        rfl
      · refine ⟨.tup (Ly.cutD ds (some 1) none), if_neg hc, ?_⟩
        rw [cut1]
        rfl
  | _ => cases ht
theorem Pq.noTup {j e : Nat} {d : D} (h : Pq j e d) (ht : tupV d = none) : ∀ k, suB k d = false := by
  intro k
  unfold suB
  rw [ht]
theorem tupV_two {x : D} (h : twoB x = true) : ∃ p n, tupV x = some [p, n] := by
  unfold twoB at h
  cases e : tupV x with
  | none => rw [e] at h; cases h
  | some ds =>
    rw [e] at h
    match ds, of_decide_eq_true h with
    | [p, n], _ => exact ⟨p, n, rfl⟩
theorem paB_two {k : Nat} {x : D} (h : paB k x = true) : twoB x = true := by
  unfold paB at h
  unfold twoB
  split at h
  · next p n e => rw [e]; rfl
  · cases h
theorem pw_ints : ∀ {ds : List D}, ds.all nnB = true → ∃ xs, intsOf ds = some xs
  | [], _ => ⟨[], rfl⟩
  | d :: ds, h => by
    rw [List.all_cons, Bool.and_eq_true] at h
    obtain ⟨xs, e⟩ := pw_ints h.2
    cases d with
    | int i => exact ⟨i :: xs, by show (intsOf ds).map _ = _; rw [e]; rfl⟩
    | _ => cases h.1
theorem paB_row {k : Nat} {x : D} (h : paB k x = true) : ∃ p n ds xs, tupV x = some [p, n] ∧ tupV p = some ds ∧ intsOf ds = some xs ∧ rowD x = xs := by
  unfold paB at h
  split at h
  · next p n e =>
    rw [Bool.and_eq_true] at h
    have h1 := h.1
    unfold pwB at h1
    split at h1
    · next ds e2 =>
      rw [Bool.and_eq_true] at h1
      obtain ⟨xs, e3⟩ := pw_ints h1.2
      refine ⟨p, n, ds, xs, e, e2, e3, ?_⟩
      unfold rowD
      rw [e]
      show (match tupV p with
        | some xs => (intsOf xs).getD []
        | none => []) = _
      rw [e2]
      show (intsOf ds).getD [] = xs
      rw [e3]
      rfl
    · cases h1
  · cases h
section
variable {M : Mem} {Q : D → Mem → Prop} {j e k : Nat} {d : D}
theorem go_orT' {a b : MT} {env : Ly.Env} {Q : Bool → Mem → Prop} {c1 c2 : Bool} (h1 : ∀ K : Bool → Mem → Prop, K c1 M → Go (a env M) K) (h2 : c1 = false → ∀ K : Bool → Mem → Prop, K c2 M → Go (b env M) K) (q : Q (c1 || c2) M) : Go (mOrT a b env M) Q := by
  rw [go_orT]
  refine h1 _ ?_
  cases c1 with
  | true => exact q
  | false => exact h2 rfl _ q
theorem is_sum_ok (h : Pq j e d) (hj : j ≤ 1000) (hw : wX d ≤ 16000) (q : Q (.bl (suB k d)) M) : Go (f_is_sum [.int (k : Nat), d] M) Q := by
  unfold f_is_sum
  rw [go_callD]
  show GoS (m_is_sum [some (.int (k : Nat)), some d, none, none, none, none] M) _ _
  unfold m_is_sum
  have fin : ∀ b, Q (.bl b) M → Go (Ly.finish M (.bl b) M) Q := fun b q => go_fin_same rfl q
  rw [go_seq, go_ifS]
  cases ht : tupV d with
  | none =>
    rw [h.noTup ht] at q
    refine go_orT' (c1 := true) (c2 := true) (fun K hK => ?_) (fun h => by cases h) ?_
    · simp only [go_bin, go_un, go_var, go_c, go_test, go_andT, go_orT, go_notT, go_yes, go_andV, go_if, go_nil, go_cons, go_tup, go_lst, go_lstC, go_cb, go_call, go_callW, go_meth, go_noPart, go_part, go_sl, go_get, go_retN, go_lc, go_dc, go_iter, go_enum, go_rng, go_rng1, go_rng2, go_rng3, go_disp, go_pnil, go_pcons, go_bdT, go_bdF, go_ok, go_nx, go_rt, go_addI, go_addS, go_addT, go_addL, go_subI, go_mulI, go_mulL, go_modI, go_fdivI, go_powI, go_ltI, go_leI, go_gtI, go_geI, go_eqI, go_eqS, go_neI, go_neS, go_ixF, go_ixT, go_ixS, go_ixD, go_slT, go_slF, go_slR, go_slS, go_revF, go_revCF, go_revAT, go_revAL, List.getElem?_cons_zero, List.getElem?_cons_succ, List.set_cons_zero, List.set_cons_succ, List.length_cons, List.length_nil, D.int.injEq, D.bl.injEq, D.str.injEq, Option.some.injEq, exists_eq_left', go_listF, go_listT, go_tupleF, go_tupleT, go_lenF, go_lenT, go_lenS, go_isiS, go_isiI, go_intI, go_intB, go_maxI, it_lst, it_tupD, it_strD, en_lst, en_tup, fr_gN, wipeD, go_inTab, go_notInTab, go_tab, go_lc2, go_par2, go_par3, go_asg, go_isB, go_tell, go_kget, go_notB, go_slStep, go_slStepT, go_dictZip, go_setEq, isi_tupQ h, ht]
      exact hK
    · simp only [go_bin, go_un, go_var, go_c, go_test, go_andT, go_orT, go_notT, go_yes, go_andV, go_if, go_nil, go_cons, go_tup, go_lst, go_lstC, go_cb, go_call, go_callW, go_meth, go_noPart, go_part, go_sl, go_get, go_retN, go_lc, go_dc, go_iter, go_enum, go_rng, go_rng1, go_rng2, go_rng3, go_disp, go_pnil, go_pcons, go_bdT, go_bdF, go_ok, go_nx, go_rt, go_addI, go_addS, go_addT, go_addL, go_subI, go_mulI, go_mulL, go_modI, go_fdivI, go_powI, go_ltI, go_leI, go_gtI, go_geI, go_eqI, go_eqS, go_neI, go_neS, go_ixF, go_ixT, go_ixS, go_ixD, go_slT, go_slF, go_slR, go_slS, go_revF, go_revCF, go_revAT, go_revAL, List.getElem?_cons_zero, List.getElem?_cons_succ, List.set_cons_zero, List.set_cons_succ, List.length_cons, List.length_nil, D.int.injEq, D.bl.injEq, D.str.injEq, Option.some.injEq, exists_eq_left', go_listF, go_listT, go_tupleF, go_tupleT, go_lenF, go_lenT, go_lenS, go_isiS, go_isiI, go_intI, go_intB, go_maxI, it_lst, it_tupD, it_strD, en_lst, en_tup, fr_gN, wipeD, go_inTab, go_notInTab, go_tab, go_lc2, go_par2, go_par3, go_asg, go_isB, go_tell, go_kget, go_notB, go_slStep, go_slStepT, go_dictZip, go_setEq, go_ret]
      exact fin _ q
  | some ds =>
    obtain ⟨e0, rfl, v⟩ := h.view hj ht
    have hl : ds.length ≤ 16000 := Nat.le_trans (sX_len ds) (v.w ▸ hw)
    have e1 : ds = ds.map id := by rw [List.map_id]
    have sub : ∀ x ∈ ds, wX x ≤ 16000 := fun x hx => by have := sX_mem hx; rw [← v.w] at this; omega
    refine go_orT' (c1 := false) (c2 := !ds.all twoB) (fun K hK => ?_) (fun _ K hK => ?_) ?_
    · simp only [go_bin, go_un, go_var, go_c, go_test, go_andT, go_orT, go_notT, go_yes, go_andV, go_if, go_nil, go_cons, go_tup, go_lst, go_lstC, go_cb, go_call, go_callW, go_meth, go_noPart, go_part, go_sl, go_get, go_retN, go_lc, go_dc, go_iter, go_enum, go_rng, go_rng1, go_rng2, go_rng3, go_disp, go_pnil, go_pcons, go_bdT, go_bdF, go_ok, go_nx, go_rt, go_addI, go_addS, go_addT, go_addL, go_subI, go_mulI, go_mulL, go_modI, go_fdivI, go_powI, go_ltI, go_leI, go_gtI, go_geI, go_eqI, go_eqS, go_neI, go_neS, go_ixF, go_ixT, go_ixS, go_ixD, go_slT, go_slF, go_slR, go_slS, go_revF, go_revCF, go_revAT, go_revAL, List.getElem?_cons_zero, List.getElem?_cons_succ, List.set_cons_zero, List.set_cons_succ, List.length_cons, List.length_nil, D.int.injEq, D.bl.injEq, D.str.injEq, Option.some.injEq, exists_eq_left', go_listF, go_listT, go_tupleF, go_tupleT, go_lenF, go_lenT, go_lenS, go_isiS, go_isiI, go_intI, go_intB, go_maxI, it_lst, it_tupD, it_strD, en_lst, en_tup, fr_gN, wipeD, go_inTab, go_notInTab, go_tab, go_lc2, go_par2, go_par3, go_asg, go_isB, go_tell, go_kget, go_notB, go_slStep, go_slStepT, go_dictZip, go_setEq, isi_tupQ h, ht]
      exact hK
    · simp only [go_bin, go_un, go_var, go_c, go_test, go_andT, go_orT, go_notT, go_yes, go_andV, go_if, go_nil, go_cons, go_tup, go_lst, go_lstC, go_cb, go_call, go_callW, go_meth, go_noPart, go_part, go_sl, go_get, go_retN, go_lc, go_dc, go_iter, go_enum, go_rng, go_rng1, go_rng2, go_rng3, go_disp, go_pnil, go_pcons, go_bdT, go_bdF, go_ok, go_nx, go_rt, go_addI, go_addS, go_addT, go_addL, go_subI, go_mulI, go_mulL, go_modI, go_fdivI, go_powI, go_ltI, go_leI, go_gtI, go_geI, go_eqI, go_eqS, go_neI, go_neS, go_ixF, go_ixT, go_ixS, go_ixD, go_slT, go_slF, go_slR, go_slS, go_revF, go_revCF, go_revAT, go_revAL, List.getElem?_cons_zero, List.getElem?_cons_succ, List.set_cons_zero, List.set_cons_succ, List.length_cons, List.length_nil, D.int.injEq, D.bl.injEq, D.str.injEq, Option.some.injEq, exists_eq_left', go_listF, go_listT, go_tupleF, go_tupleT, go_lenF, go_lenT, go_lenS, go_isiS, go_isiI, go_intI, go_intB, go_maxI, it_lst, it_tupD, it_strD, en_lst, en_tup, fr_gN, wipeD, go_inTab, go_notInTab, go_tab, go_lc2, go_par2, go_par3, go_asg, go_isB, go_tell, go_kget, go_notB, go_slStep, go_slStepT, go_dictZip, go_setEq, v.it]
      rw [e1]
      refine cp_pure (h := fun x => D.bl (twoB x)) trivial ds [] (by rw [List.length_nil]; omega) (fun x hx => ⟨_, rfl, fun K hK => ?_⟩) ?_
      · simp only [go_bin, go_un, go_var, go_c, go_test, go_andT, go_orT, go_notT, go_yes, go_andV, go_if, go_nil, go_cons, go_tup, go_lst, go_lstC, go_cb, go_call, go_callW, go_meth, go_noPart, go_part, go_sl, go_get, go_retN, go_lc, go_dc, go_iter, go_enum, go_rng, go_rng1, go_rng2, go_rng3, go_disp, go_pnil, go_pcons, go_bdT, go_bdF, go_ok, go_nx, go_rt, go_addI, go_addS, go_addT, go_addL, go_subI, go_mulI, go_mulL, go_modI, go_fdivI, go_powI, go_ltI, go_leI, go_gtI, go_geI, go_eqI, go_eqS, go_neI, go_neS, go_ixF, go_ixT, go_ixS, go_ixD, go_slT, go_slF, go_slR, go_slS, go_revF, go_revCF, go_revAT, go_revAL, List.getElem?_cons_zero, List.getElem?_cons_succ, List.set_cons_zero, List.set_cons_succ, List.length_cons, List.length_nil, D.int.injEq, D.bl.injEq, D.str.injEq, Option.some.injEq, exists_eq_left', go_listF, go_listT, go_tupleF, go_tupleT, go_lenF, go_lenT, go_lenS, go_isiS, go_isiI, go_intI, go_intB, go_maxI, it_lst, it_tupD, it_strD, en_lst, en_tup, fr_gN, wipeD, go_inTab, go_notInTab, go_tab, go_lc2, go_par2, go_par3, go_asg, go_isB, go_tell, go_kget, go_notB, go_slStep, go_slStepT, go_dictZip, go_setEq, List.set_cons_zero, List.set_cons_succ, id, isi_tupQ (v.all x hx)]
        cases hx2 : tupV x with
        | none =>
          have : twoB x = false := by unfold twoB; rw [hx2]
          rw [this] at hK
          exact hK
        | some es =>
          obtain ⟨e2, _, v2⟩ := (v.all x hx).view hj hx2
          have : twoB x = decide (es.length = 2) := by unfold twoB; rw [hx2]
          rw [this] at hK
          rw [Option.isSome_some, if_pos rfl, v2.ln, go_ok, go_eqI]
          have e3 : decide (((es.length : Nat) : Int) = 2) = decide (es.length = 2) := by
            by_cases hh : es.length = 2
            · rw [decide_eq_true hh, decide_eq_true (by omega)]
            · rw [decide_eq_false hh, decide_eq_false (by omega)]
          rw [e3]
          exact hK
      · rw [List.nil_append, show ds.map (fun x => D.bl (twoB x)) = (ds.map twoB).map D.bl by rw [List.map_map]; rfl]
        refine go_boolsS ⟨_, rfl, ?_⟩
        rw [List.all_map]
        exact hK
    · rw [Bool.false_or]
      have esu : suB k d = (ds.all (paB k) && riB ds) := by unfold suB; rw [ht]
      cases h2 : ds.all twoB with
      | false =>
        have : ds.all (paB k) = false := by
          cases h3 : ds.all (paB k) with
          | false => rfl
          | true =>
            rw [List.all_eq_true] at h3
            have : ds.all twoB = true := List.all_eq_true.mpr fun x hx => paB_two (h3 x hx)
            rw [this] at h2
            cases h2
        rw [esu, this, Bool.false_and] at q
        simp only [go_bin, go_un, go_var, go_c, go_test, go_andT, go_orT, go_notT, go_yes, go_andV, go_if, go_nil, go_cons, go_tup, go_lst, go_lstC, go_cb, go_call, go_callW, go_meth, go_noPart, go_part, go_sl, go_get, go_retN, go_lc, go_dc, go_iter, go_enum, go_rng, go_rng1, go_rng2, go_rng3, go_disp, go_pnil, go_pcons, go_bdT, go_bdF, go_ok, go_nx, go_rt, go_addI, go_addS, go_addT, go_addL, go_subI, go_mulI, go_mulL, go_modI, go_fdivI, go_powI, go_ltI, go_leI, go_gtI, go_geI, go_eqI, go_eqS, go_neI, go_neS, go_ixF, go_ixT, go_ixS, go_ixD, go_slT, go_slF, go_slR, go_slS, go_revF, go_revCF, go_revAT, go_revAL, List.getElem?_cons_zero, List.getElem?_cons_succ, List.set_cons_zero, List.set_cons_succ, List.length_cons, List.length_nil, D.int.injEq, D.bl.injEq, D.str.injEq, Option.some.injEq, exists_eq_left', go_listF, go_listT, go_tupleF, go_tupleT, go_lenF, go_lenT, go_lenS, go_isiS, go_isiI, go_intI, go_intB, go_maxI, it_lst, it_tupD, it_strD, en_lst, en_tup, fr_gN, wipeD, go_inTab, go_notInTab, go_tab, go_lc2, go_par2, go_par3, go_asg, go_isB, go_tell, go_kget, go_notB, go_slStep, go_slStepT, go_dictZip, go_setEq, go_ret]
        exact fin _ q
      | true =>
        rw [List.all_eq_true] at h2
        rw [Bool.not_true, if_neg (by decide), go_next, go_seq, go_ifS]
        simp only [go_bin, go_un, go_var, go_c, go_test, go_andT, go_orT, go_notT, go_yes, go_andV, go_if, go_nil, go_cons, go_tup, go_lst, go_lstC, go_cb, go_call, go_callW, go_meth, go_noPart, go_part, go_sl, go_get, go_retN, go_lc, go_dc, go_iter, go_enum, go_rng, go_rng1, go_rng2, go_rng3, go_disp, go_pnil, go_pcons, go_bdT, go_bdF, go_ok, go_nx, go_rt, go_addI, go_addS, go_addT, go_addL, go_subI, go_mulI, go_mulL, go_modI, go_fdivI, go_powI, go_ltI, go_leI, go_gtI, go_geI, go_eqI, go_eqS, go_neI, go_neS, go_ixF, go_ixT, go_ixS, go_ixD, go_slT, go_slF, go_slR, go_slS, go_revF, go_revCF, go_revAT, go_revAL, List.getElem?_cons_zero, List.getElem?_cons_succ, List.set_cons_zero, List.set_cons_succ, List.length_cons, List.length_nil, D.int.injEq, D.bl.injEq, D.str.injEq, Option.some.injEq, exists_eq_left', go_listF, go_listT, go_tupleF, go_tupleT, go_lenF, go_lenT, go_lenS, go_isiS, go_isiI, go_intI, go_intB, go_maxI, it_lst, it_tupD, it_strD, en_lst, en_tup, fr_gN, wipeD, go_inTab, go_notInTab, go_tab, go_lc2, go_par2, go_par3, go_asg, go_isB, go_tell, go_kget, go_notB, go_slStep, go_slStepT, go_dictZip, go_setEq, v.it]
        rw [e1]
        refine cp_pure (h := fun x => D.bl (paB k x)) trivial ds [] (by rw [List.length_nil]; omega) (fun x hx => ?_) ?_
        · obtain ⟨p, n, hpn⟩ := tupV_two (h2 x hx)
          obtain ⟨e2, _, v2⟩ := (v.all x hx).view hj hpn
          have wp : wX p ≤ 16000 := by
            have a := sX_mem (show p ∈ [p, n] by simp)
            have b := sub x hx
            rw [← v2.w] at a
            omega
          refine ⟨_, (v2.tg _ _).trans rfl, fun K hK => ?_⟩
          have epa : paB k x = (pwB k p && nzB n) := by unfold paB; rw [hpn]
          simp only [go_bin, go_un, go_var, go_c, go_test, go_andT, go_orT, go_notT, go_yes, go_andV, go_if, go_nil, go_cons, go_tup, go_lst, go_lstC, go_cb, go_call, go_callW, go_meth, go_noPart, go_part, go_sl, go_get, go_retN, go_lc, go_dc, go_iter, go_enum, go_rng, go_rng1, go_rng2, go_rng3, go_disp, go_pnil, go_pcons, go_bdT, go_bdF, go_ok, go_nx, go_rt, go_addI, go_addS, go_addT, go_addL, go_subI, go_mulI, go_mulL, go_modI, go_fdivI, go_powI, go_ltI, go_leI, go_gtI, go_geI, go_eqI, go_eqS, go_neI, go_neS, go_ixF, go_ixT, go_ixS, go_ixD, go_slT, go_slF, go_slR, go_slS, go_revF, go_revCF, go_revAT, go_revAL, List.getElem?_cons_zero, List.getElem?_cons_succ, List.set_cons_zero, List.set_cons_succ, List.length_cons, List.length_nil, D.int.injEq, D.bl.injEq, D.str.injEq, Option.some.injEq, exists_eq_left', go_listF, go_listT, go_tupleF, go_tupleT, go_lenF, go_lenT, go_lenS, go_isiS, go_isiI, go_intI, go_intB, go_maxI, it_lst, it_tupD, it_strD, en_lst, en_tup, fr_gN, wipeD, go_inTab, go_notInTab, go_tab, go_lc2, go_par2, go_par3, go_asg, go_isB, go_tell, go_kget, go_notB, go_slStep, go_slStepT, go_dictZip, go_setEq, List.set_cons_zero, List.set_cons_succ, true_and, go_andV]
          refine is_powers_ok (v2.all p (by simp)) hj wp ⟨_, rfl, ?_⟩
          cases hp : pwB k p with
          | false =>
            rw [epa, hp, Bool.false_and] at hK
            exact hK
          | true =>
            rw [if_pos rfl]
            refine is_whole_ok (v2.all n (by simp)) ⟨_, rfl, ?_⟩
            rw [epa, hp, Bool.true_and] at hK
            cases n with
            | int i =>
              show Go (opNe (.int i) (.int 0) M) K
              rw [go_neI]
              have : nzB (.int i) = !decide (i = 0) := decide_not
              rw [this] at hK
              exact hK
            | _ => exact hK
        · rw [List.nil_append, show ds.map (fun x => D.bl (paB k x)) = (ds.map (paB k)).map D.bl by rw [List.map_map]; rfl]
          refine go_boolsS ⟨_, rfl, ?_⟩
          rw [List.all_map]
          have e9 : (ds.all (id ∘ paB k)) = ds.all (paB k) := rfl
          rw [e9]
          cases h3 : ds.all (paB k) with
          | false =>
            rw [esu, h3, Bool.false_and] at q
            simp only [go_bin, go_un, go_var, go_c, go_test, go_andT, go_orT, go_notT, go_yes, go_andV, go_if, go_nil, go_cons, go_tup, go_lst, go_lstC, go_cb, go_call, go_callW, go_meth, go_noPart, go_part, go_sl, go_get, go_retN, go_lc, go_dc, go_iter, go_enum, go_rng, go_rng1, go_rng2, go_rng3, go_disp, go_pnil, go_pcons, go_bdT, go_bdF, go_ok, go_nx, go_rt, go_addI, go_addS, go_addT, go_addL, go_subI, go_mulI, go_mulL, go_modI, go_fdivI, go_powI, go_ltI, go_leI, go_gtI, go_geI, go_eqI, go_eqS, go_neI, go_neS, go_ixF, go_ixT, go_ixS, go_ixD, go_slT, go_slF, go_slR, go_slS, go_revF, go_revCF, go_revAT, go_revAL, List.getElem?_cons_zero, List.getElem?_cons_succ, List.set_cons_zero, List.set_cons_succ, List.length_cons, List.length_nil, D.int.injEq, D.bl.injEq, D.str.injEq, Option.some.injEq, exists_eq_left', go_listF, go_listT, go_tupleF, go_tupleT, go_lenF, go_lenT, go_lenS, go_isiS, go_isiI, go_intI, go_intB, go_maxI, it_lst, it_tupD, it_strD, en_lst, en_tup, fr_gN, wipeD, go_inTab, go_notInTab, go_tab, go_lc2, go_par2, go_par3, go_asg, go_isB, go_tell, go_kget, go_notB, go_slStep, go_slStepT, go_dictZip, go_setEq, go_ret]
            exact fin _ q
          | true =>
            rw [List.all_eq_true] at h3
            rw [Bool.not_true, if_neg (by decide), go_next]
            obtain ⟨d2, s1, s2⟩ := v.sl M
            simp only [go_bin, go_un, go_var, go_c, go_test, go_andT, go_orT, go_notT, go_yes, go_andV, go_if, go_nil, go_cons, go_tup, go_lst, go_lstC, go_cb, go_call, go_callW, go_meth, go_noPart, go_part, go_sl, go_get, go_retN, go_lc, go_dc, go_iter, go_enum, go_rng, go_rng1, go_rng2, go_rng3, go_disp, go_pnil, go_pcons, go_bdT, go_bdF, go_ok, go_nx, go_rt, go_addI, go_addS, go_addT, go_addL, go_subI, go_mulI, go_mulL, go_modI, go_fdivI, go_powI, go_ltI, go_leI, go_gtI, go_geI, go_eqI, go_eqS, go_neI, go_neS, go_ixF, go_ixT, go_ixS, go_ixD, go_slT, go_slF, go_slR, go_slS, go_revF, go_revCF, go_revAT, go_revAL, List.getElem?_cons_zero, List.getElem?_cons_succ, List.set_cons_zero, List.set_cons_succ, List.length_cons, List.length_nil, D.int.injEq, D.bl.injEq, D.str.injEq, Option.some.injEq, exists_eq_left', go_listF, go_listT, go_tupleF, go_tupleT, go_lenF, go_lenT, go_lenS, go_isiS, go_isiI, go_intI, go_intB, go_maxI, it_lst, it_tupD, it_strD, en_lst, en_tup, fr_gN, wipeD, go_inTab, go_notInTab, go_tab, go_lc2, go_par2, go_par3, go_asg, go_isB, go_tell, go_kget, go_notB, go_slStep, go_slStepT, go_dictZip, go_setEq, go_ret, s1]
            rw [go_zipP (v.it M) s2]
            dsimp only
            unfold paired
            refine cp_pure (f := fun p : D × D => D.tup [p.1, p.2]) (h := fun p : D × D => D.bl (ltInts (rowD p.1) (rowD p.2))) ⟨trivial, trivial⟩ (ds.zip (ds.drop 1)) [] (by rw [List.length_nil, List.length_zip]; omega) (fun p hp => ⟨_, rfl, fun K hK => ?_⟩) ?_
            · obtain ⟨i1, i2⟩ := List.of_mem_zip (a := p.1) (b := p.2) hp
              have i2 : p.2 ∈ ds := List.mem_of_mem_drop i2
              obtain ⟨p1, n1, es1, xs1, a1, a2, a3, a4⟩ := paB_row (h3 _ i1)
              obtain ⟨p2, n2, es2, xs2, b1, b2, b3, b4⟩ := paB_row (h3 _ i2)
              obtain ⟨_, _, v1⟩ := (v.all _ i1).view hj a1
              obtain ⟨_, _, v2⟩ := (v.all _ i2).view hj b1
              simp only [go_bin, go_un, go_var, go_c, go_test, go_andT, go_orT, go_notT, go_yes, go_andV, go_if, go_nil, go_cons, go_tup, go_lst, go_lstC, go_cb, go_call, go_callW, go_meth, go_noPart, go_part, go_sl, go_get, go_retN, go_lc, go_dc, go_iter, go_enum, go_rng, go_rng1, go_rng2, go_rng3, go_disp, go_pnil, go_pcons, go_bdT, go_bdF, go_ok, go_nx, go_rt, go_addI, go_addS, go_addT, go_addL, go_subI, go_mulI, go_mulL, go_modI, go_fdivI, go_powI, go_ltI, go_leI, go_gtI, go_geI, go_eqI, go_eqS, go_neI, go_neS, go_ixF, go_ixT, go_ixS, go_ixD, go_slT, go_slF, go_slR, go_slS, go_revF, go_revCF, go_revAT, go_revAL, List.getElem?_cons_zero, List.getElem?_cons_succ, List.set_cons_zero, List.set_cons_succ, List.length_cons, List.length_nil, D.int.injEq, D.bl.injEq, D.str.injEq, Option.some.injEq, exists_eq_left', go_listF, go_listT, go_tupleF, go_tupleT, go_lenF, go_lenT, go_lenS, go_isiS, go_isiI, go_intI, go_intB, go_maxI, it_lst, it_tupD, it_strD, en_lst, en_tup, fr_gN, wipeD, go_inTab, go_notInTab, go_tab, go_lc2, go_par2, go_par3, go_asg, go_isB, go_tell, go_kget, go_notB, go_slStep, go_slStepT, go_dictZip, go_setEq, List.set_cons_zero, List.set_cons_succ, v1.ix 0 p1 M rfl, v2.ix 0 p2 M rfl]
              rw [go_ltT a2 b2 a3 b3]
              rw [a4, b4] at hK
              exact hK
            · rw [List.nil_append, show (ds.zip (ds.drop 1)).map (fun p : D × D => D.bl (ltInts (rowD p.1) (rowD p.2))) = ((ds.zip (ds.drop 1)).map fun p : D × D => ltInts (rowD p.1) (rowD p.2)).map D.bl by rw [List.map_map]; rfl]
              refine go_boolsS (fin _ ?_)
              rw [List.all_map]
              have e10 : ds.all (paB k) = true := List.all_eq_true.mpr h3
              rw [esu, e10, Bool.true_and] at q
              exact q
end
end Su
namespace Su
open PySem PySem.Spec PyProof.Rows L2 Ly
noncomputable def m__law_deck : MS := (mSeq (mAsg (mCB fList (mCons (mSl (mVar 0) mNoPart (mPart (mC (.int 63)))) mNil)) (gN 1))
  (mSeq (mAsg (mCB fSum (mCons (mLc (mIter (mVar 1)) (gN 3) mYes (mBin opMod (mVar 3) (mC (.int 2147483629))) [3]) mNil)) (gN 2))
  (mRet (mDisp true [((mC (.str "cells")), (mUn opRevC (mVar 1))), ((mC (.str "sum")), (mBin opAdd (mBin opMod (mVar 2) (mC (.int 2147483629))) (mBin opMulU (mC (.int 7919)) (mCB fLen (mCons (mVar 1) mNil))))), ((mC (.str "at")), (mC (.int 0)))]))))
noncomputable def f__law_deck : MF := callK 4 m__law_deck
noncomputable def m__law_draw : MS := (mSeq (mSetItem (mBin opAdd (mBin opIx (mVar 0) (mC (.str "at"))) (mC (.int 1))) (mVar 0) (mC (.str "at")))
  (mSeq (mAsg (mBin opIx (mVar 0) (mC (.str "at"))) (gN 2))
  (mSeq (mAsg (mBin opAdd (mBin opIx (mVar 0) (mC (.str "sum"))) (mVar 2)) (gN 3))
  (mSeq (mIfS (mTest (mBin opNe (mBin opIx (mVar 0) (mC (.str "cells"))) (mLst mNil))) (mSeq (mAsg (mMeth isLst fPop (mBin opIx (mVar 0) (mC (.str "cells"))) mNil) (gN 3))
  (mIfS (mTest (mBin opGe (mVar 3) (mBin opPow (mC (.int 10)) (mC (.int 18))))) (mSeq (mDrop (mMeth isLst fAppend (mBin opIx (mVar 0) (mC (.str "cells"))) (mCons (mBin opFdiv (mVar 3) (mVar 1)) mNil)))
  (mRet (mBin opMod (mVar 3) (mVar 1)))) mNext)) mNext)
  (mSeq (mAsg (mBin opMod (mBin opAdd (mBin opAdd (mBin opMulU (mBin opMod (mVar 3) (mC (.int 2147483647))) (mC (.int 48271))) (mBin opMulU (mBin opMulU (mC (.int 69621)) (mVar 2)) (mVar 2))) (mC (.int 7919))) (mC (.int 2147483629))) (gN 4))
  (mSeq (mAsg (mBin opMod (mBin opMulU (mVar 4) (mVar 4)) (mC (.int 2147483587))) (gN 4))
  (mRet (mBin opMod (mBin opFdiv (mBin opMod (mBin opMulU (mVar 4) (mBin opAdd (mVar 4) (mC (.int 39373)))) (mC (.int 2147483563))) (mC (.int 64))) (mVar 1)))))))))
noncomputable def f__law_draw : MF := callD 5 m__law_draw
end Su
namespace Su
open PySem PySem.Spec PyProof.Rows L2 Ly
def dz (xs : List Int) (s c : Int) (T : Mem) : Mem := .lst (xs.map .int) :: .dic [(.inr "cells", .ref 0), (.inr "sum", .int s), (.inr "at", .int c)] :: T
def DzIs (b : Nat) (T M : Mem) : Prop := ∃ xs s c, M = dz xs s c T ∧ xs.length ≤ 99 ∧ 0 ≤ s ∧ s < 4294967296 ∧ 0 ≤ c ∧ c ≤ b
theorem DzIs.mono {b b' : Nat} {T M : Mem} (h : DzIs b T M) (hb : b ≤ b') : DzIs b' T M := by
  obtain ⟨xs, s, c, e, h0, h1, h2, h3, h4⟩ := h
  exact ⟨xs, s, c, e, h0, h1, h2, h3, by omega⟩
theorem DzIs.push {b : Nat} {T M : Mem} (h : DzIs b T M) (c : Cell) : DzIs b (T ++ [c]) (M ++ [c]) := by
  obtain ⟨xs, s, k, rfl, h⟩ := h
  exact ⟨xs, s, k, rfl, h⟩
theorem DzIs.len {b : Nat} {T M : Mem} (h : DzIs b T M) : M.length = T.length + 2 := by
  obtain ⟨xs, s, k, rfl, h⟩ := h
  rfl
theorem DzIs.get {b : Nat} {T M : Mem} (h : DzIs b T M) (n : Nat) : M[n + 2]? = T[n]? := by
  obtain ⟨xs, s, k, rfl, h⟩ := h
  rfl
theorem DzIs.set {b : Nat} {T M : Mem} (h : DzIs b T M) (n : Nat) (c : Cell) : DzIs b (T.set n c) (M.set (n + 2) c) := by
  obtain ⟨xs, s, k, rfl, h⟩ := h
  exact ⟨xs, s, k, rfl, h⟩
theorem DzIs.laid {b b' : Nat} {T N M M' : Mem} (h : DzIs b T M) (h' : DzIs b' (T ++ N) M') : Laid M M' ∧ DzIs b' T (M'.take M.length) := by
  obtain ⟨xs, s, k, rfl, _⟩ := h
  obtain ⟨xs', s', k', rfl, h⟩ := h'
  refine ⟨fun i hi => ?_, xs', s', k', ?_, h⟩
  · match i with
    | 0 => exact .inr ⟨_, rfl, low_ints _ _⟩
    | 1 => exact .inr ⟨_, rfl, by show (decide (0 < T.length + 1 + 1) && _) = true; rw [decide_eq_true (by omega)]; rfl⟩
    | i + 2 =>
      refine .inl ?_
      show (T ++ N)[i]? = T[i]?
      exact List.getElem?_append_left (by
        have : i + 2 < T.length + 2 := hi
        omega)
  · show _ :: _ :: (T ++ N).take T.length = _
    rw [List.take_left]
    rfl
theorem go_fin_dz {b b' : Nat} {T N M M' : Mem} {d d' : D} {Q : D → Mem → Prop} (h : DzIs b T M) (h' : DzIs b' (T ++ N) M') (e : frzD M.length M' 20 d = some d') (q : ∀ M2, DzIs b' T M2 → Q d' M2) : Go (Ly.finish M d M') Q :=
  go_finish (h.laid h').1 e (q _ (h.laid h').2)
theorem go_fin_dz0 {b b' : Nat} {T M M' : Mem} {d d' : D} {Q : D → Mem → Prop} (h : DzIs b T M) (h' : DzIs b' T M') (e : frzD M.length M' 20 d = some d') (q : ∀ M2, DzIs b' T M2 → Q d' M2) : Go (Ly.finish M d M') Q :=
  go_fin_dz (N := []) h (by rw [List.append_nil]; exact h') e q
theorem go_ixZ {M : Mem} {n : Nat} {kvs : List (Key × D)} {z : Str} {v : D} {Q : D → Mem → Prop} (h : M[n]? = some (.dic kvs)) (hv : valD kvs (.inr z) = some v) : Go (opIx (.ref n) (.str z) M) Q = Q v M := by
  have e : opIx (.ref n) (.str z) M = .ok v M := by
    have d : dicOf (.ref n) M = some kvs := by
      show (match M[n]? with
        | some (.dic kvs) => some kvs
        | _ => none) = _
      rw [h]
    show (match dicOf (.ref n) M with
      | some kvs => (match (keyOf (.str z)).bind (valD kvs) with
        | some v => Res.ok v M
        | none => .bad)
      | none => (match seqOf (.ref n) M, D.str z with
        | some ds, .int i => (match atI ds i with
          | some v => .ok v M
          | none => .bad)
        | _, _ => .bad)) = _
    rw [d]
    show (match valD kvs (.inr z) with
        | some v => Res.ok v M
        | none => .bad) = _
    rw [hv]
  rw [e]
  rfl
theorem draw_ok {b : Nat} {T M : Mem} {m : Int} {Q : D → Mem → Prop} (h : DzIs b T M) (hb : b ≤ 1000000) (hm : 0 < m) (hm2 : m < 1073741824) (q : ∀ r M', 0 ≤ r → r < m → DzIs (b + 1) T M' → Q (.int r) M') : Go (f__law_draw [.ref 1, .int m] M) Q := by
  have h0 := h
  obtain ⟨xs, s, c, rfl, xl, s0, s1, c0, c1⟩ := h
  have mn : m ≠ 0 := by omega
  have fin : ∀ (xs' : List Int) (r : Int), xs'.length ≤ 99 → 0 ≤ r → r < m → Go (Ly.finish (dz xs s c T) (.int r) (dz xs' s (c + 1) T)) Q := fun xs' r rl r0 r1 =>
    go_fin_dz0 (b' := b + 1) h0 ⟨xs', s, c + 1, rfl, rl, s0, s1, by omega, by omega⟩ (frz_low rfl) fun M2 h2 => q r M2 r0 r1 h2
  have tail : ∀ (xs' : List Int) (cell : Int) (z : Option D), xs'.length ≤ 99 → GoS ((mSeq (mAsg (mBin opMod (mBin opAdd (mBin opAdd (mBin opMulU (mBin opMod (mVar 3) (mC (.int 2147483647))) (mC (.int 48271))) (mBin opMulU (mBin opMulU (mC (.int 69621)) (mVar 2)) (mVar 2))) (mC (.int 7919))) (mC (.int 2147483629))) (gN 4))
  (mSeq (mAsg (mBin opMod (mBin opMulU (mVar 4) (mVar 4)) (mC (.int 2147483587))) (gN 4))
  (mRet (mBin opMod (mBin opFdiv (mBin opMod (mBin opMulU (mVar 4) (mBin opAdd (mVar 4) (mC (.int 39373)))) (mC (.int 2147483563))) (mC (.int 64))) (mVar 1))))) [some (.ref 1), some (.int m), some (.int (c + 1)), some (.int cell), z] (dz xs' s (c + 1) T)) (fun _ M' => Go (Ly.finish (dz xs s c T) .non M') Q) fun d M' => Go (Ly.finish (dz xs s c T) d M') Q := by
    intro xs' cell z xl'
    rw [go_seq, go_set]
    simp only [go_bin, go_un, go_var, go_c, go_test, go_andT, go_orT, go_notT, go_yes, go_andV, go_if, go_nil, go_cons, go_tup, go_lst, go_lstC, go_cb, go_call, go_callW, go_meth, go_noPart, go_part, go_sl, go_get, go_retN, go_lc, go_dc, go_iter, go_enum, go_rng, go_rng1, go_rng2, go_rng3, go_disp, go_pnil, go_pcons, go_bdT, go_bdF, go_ok, go_nx, go_rt, go_addI, go_addS, go_addT, go_addL, go_subI, go_mulI, go_mulL, go_modI, go_fdivI, go_powI, go_ltI, go_leI, go_gtI, go_geI, go_eqI, go_eqS, go_neI, go_neS, go_ixF, go_ixT, go_ixS, go_ixD, go_slT, go_slF, go_slR, go_slS, go_revF, go_revCF, go_revAT, go_revAL, List.getElem?_cons_zero, List.getElem?_cons_succ, List.set_cons_zero, List.set_cons_succ, List.length_cons, List.length_nil, D.int.injEq, D.bl.injEq, D.str.injEq, Option.some.injEq, exists_eq_left', go_listF, go_listT, go_tupleF, go_tupleT, go_lenF, go_lenT, go_lenS, go_isiS, go_isiI, go_intI, go_intB, go_maxI, it_lst, it_tupD, it_strD, en_lst, en_tup, fr_gN, wipeD, go_inTab, go_notInTab, go_tab, go_lc2, go_par2, go_par3, go_asg, go_isB, go_tell, go_kget, go_notB, go_slStep, go_slStepT, go_dictZip, go_setEq, List.set_cons_zero, List.set_cons_succ, go_mulUI]
    generalize hn0 : cell.fmod 2147483647 = n0
    have n0a : 0 ≤ n0 := by rw [← hn0]; exact Int.fmod_nonneg_of_pos _ (by decide)
    have n0b : n0 < 2147483647 := by rw [← hn0]; exact Int.fmod_lt_of_pos _ (by decide)
    have cc : 0 ≤ (c + 1) * (c + 1) ∧ (c + 1) * (c + 1) ≤ 1000001 * 1000001 := ⟨Int.mul_nonneg (by omega) (by omega), Int.mul_le_mul (by omega) (by omega) (by omega) (by decide)⟩
    have c3 : 69621 * (c + 1) * (c + 1) = 69621 * ((c + 1) * (c + 1)) := Int.mul_assoc _ _ _
    rw [c3]
    generalize hn2 : (n0 * 48271 + 69621 * ((c + 1) * (c + 1)) + 7919).fmod 2147483629 = n2
    have n2a : 0 ≤ n2 := by rw [← hn2]; exact Int.fmod_nonneg_of_pos _ (by decide)
    have n2b : n2 < 2147483629 := by rw [← hn2]; exact Int.fmod_lt_of_pos _ (by decide)
    refine ⟨by decide, cmulW (by omega) (by omega), cmulW (by omega) (by omega), cmulW (by omega) (by omega), by decide, ?_⟩
    rw [go_seq, go_set]
    simp only [go_bin, go_un, go_var, go_c, go_test, go_andT, go_orT, go_notT, go_yes, go_andV, go_if, go_nil, go_cons, go_tup, go_lst, go_lstC, go_cb, go_call, go_callW, go_meth, go_noPart, go_part, go_sl, go_get, go_retN, go_lc, go_dc, go_iter, go_enum, go_rng, go_rng1, go_rng2, go_rng3, go_disp, go_pnil, go_pcons, go_bdT, go_bdF, go_ok, go_nx, go_rt, go_addI, go_addS, go_addT, go_addL, go_subI, go_mulI, go_mulL, go_modI, go_fdivI, go_powI, go_ltI, go_leI, go_gtI, go_geI, go_eqI, go_eqS, go_neI, go_neS, go_ixF, go_ixT, go_ixS, go_ixD, go_slT, go_slF, go_slR, go_slS, go_revF, go_revCF, go_revAT, go_revAL, List.getElem?_cons_zero, List.getElem?_cons_succ, List.set_cons_zero, List.set_cons_succ, List.length_cons, List.length_nil, D.int.injEq, D.bl.injEq, D.str.injEq, Option.some.injEq, exists_eq_left', go_listF, go_listT, go_tupleF, go_tupleT, go_lenF, go_lenT, go_lenS, go_isiS, go_isiI, go_intI, go_intB, go_maxI, it_lst, it_tupD, it_strD, en_lst, en_tup, fr_gN, wipeD, go_inTab, go_notInTab, go_tab, go_lc2, go_par2, go_par3, go_asg, go_isB, go_tell, go_kget, go_notB, go_slStep, go_slStepT, go_dictZip, go_setEq, List.set_cons_zero, List.set_cons_succ, go_mulUI]
    generalize hn3 : (n2 * n2).fmod 2147483587 = n3
    have n3a : 0 ≤ n3 := by rw [← hn3]; exact Int.fmod_nonneg_of_pos _ (by decide)
    have n3b : n3 < 2147483587 := by rw [← hn3]; exact Int.fmod_lt_of_pos _ (by decide)
    refine ⟨cmulW (by omega) (by omega), by decide, ?_⟩
    simp only [go_bin, go_un, go_var, go_c, go_test, go_andT, go_orT, go_notT, go_yes, go_andV, go_if, go_nil, go_cons, go_tup, go_lst, go_lstC, go_cb, go_call, go_callW, go_meth, go_noPart, go_part, go_sl, go_get, go_retN, go_lc, go_dc, go_iter, go_enum, go_rng, go_rng1, go_rng2, go_rng3, go_disp, go_pnil, go_pcons, go_bdT, go_bdF, go_ok, go_nx, go_rt, go_addI, go_addS, go_addT, go_addL, go_subI, go_mulI, go_mulL, go_modI, go_fdivI, go_powI, go_ltI, go_leI, go_gtI, go_geI, go_eqI, go_eqS, go_neI, go_neS, go_ixF, go_ixT, go_ixS, go_ixD, go_slT, go_slF, go_slR, go_slS, go_revF, go_revCF, go_revAT, go_revAL, List.getElem?_cons_zero, List.getElem?_cons_succ, List.set_cons_zero, List.set_cons_succ, List.length_cons, List.length_nil, D.int.injEq, D.bl.injEq, D.str.injEq, Option.some.injEq, exists_eq_left', go_listF, go_listT, go_tupleF, go_tupleT, go_lenF, go_lenT, go_lenS, go_isiS, go_isiI, go_intI, go_intB, go_maxI, it_lst, it_tupD, it_strD, en_lst, en_tup, fr_gN, wipeD, go_inTab, go_notInTab, go_tab, go_lc2, go_par2, go_par3, go_asg, go_isB, go_tell, go_kget, go_notB, go_slStep, go_slStepT, go_dictZip, go_setEq, go_ret, List.set_cons_zero, List.set_cons_succ, go_mulUI]
    refine ⟨cmulW (by omega) (by omega), by decide, ?_, mn, ?_⟩
    · exact ⟨by decide, by decide⟩
    exact fin _ _ xl' (Int.fmod_nonneg_of_pos _ hm) (Int.fmod_lt_of_pos _ hm)
  unfold f__law_draw
  rw [go_callD]
  show GoS (m__law_draw [some (.ref 1), some (.int m), none, none, none] (dz xs s c T)) _ _
  unfold m__law_draw
  have e0 : (dz xs s c T)[1]? = some (.dic [(.inr "cells", .ref 0), (.inr "sum", .int s), (.inr "at", .int c)]) := rfl
  have vc : ∀ c : Int, valD [((.inr "cells" : Key), D.ref 0), (.inr "sum", .int s), (.inr "at", .int c)] (.inr "cells") = some (.ref 0) := fun _ => rfl
  have vs : ∀ c : Int, valD [((.inr "cells" : Key), D.ref 0), (.inr "sum", .int s), (.inr "at", .int c)] (.inr "sum") = some (.int s) := fun _ => rfl
  have va : ∀ c : Int, valD [((.inr "cells" : Key), D.ref 0), (.inr "sum", .int s), (.inr "at", .int c)] (.inr "at") = some (.int c) := fun _ => rfl
  have e1 : ∀ xs' : List Int, (dz xs' s (c + 1) T)[1]? = some (.dic [(.inr "cells", .ref 0), (.inr "sum", .int s), (.inr "at", .int (c + 1))]) := fun _ => rfl
  have w : setM (dz xs s c T) (.ref 1) (.str "at") (.int (c + 1)) = some (dz xs s (c + 1) T) := rfl
  have x0 : (dz xs s (c + 1) T)[0]? = some (.lst (xs.map .int)) := rfl
  rw [go_seq, go_setItem]
  simp only [go_bin, go_c, go_var, go_ixZ e0 (va c), Option.some.injEq, exists_eq_left', go_addI, List.getElem?_cons_zero, w]
  rw [go_seq, go_set]
  simp only [go_bin, go_c, go_var, go_ixZ (e1 xs) (va (c + 1)), List.getElem?_cons_zero, List.set_cons_succ, List.set_cons_zero]
  rw [go_seq, go_set]
  simp only [go_bin, go_c, go_var, go_ixZ (e1 xs) (vs (c + 1)), List.getElem?_cons_zero, List.getElem?_cons_succ, List.set_cons_succ, List.set_cons_zero, go_addI]
  rw [go_seq, go_ifS]
  simp only [go_test, go_bin, go_c, go_var, go_ixZ (e1 xs) (vc (c + 1)), Option.some.injEq, exists_eq_left', List.getElem?_cons_zero, go_lst, go_nil, go_neE x0, D.bl.injEq, List.length_nil]
  refine ⟨by decide, ?_⟩
  rcases List.eq_nil_or_concat xs with rfl | ⟨ys, l, e⟩
  · rw [if_neg (by decide), go_next]
    exact tail [] _ _ (by decide)
  · rw [List.concat_eq_append] at e
    subst e
    rw [if_pos (by simp)]
    have yl : ys.length ≤ 98 := by
      rw [List.length_append, List.length_singleton] at xl
      omega
    have y0 : (dz (ys ++ [l]) s (c + 1) T)[0]? = some (.lst (ys.map .int ++ [.int l])) := by
      rw [x0, List.map_append]
      rfl
    have pl : (ys.map D.int ++ [D.int l])[(ys.map D.int ++ [D.int l]).length - 1]? = some (.int l) := by simp
    have w2 : (dz (ys ++ [l]) s (c + 1) T).set 0 (.lst (ys.map D.int ++ [D.int l]).dropLast) = dz ys s (c + 1) T := by
      rw [List.dropLast_concat]
      rfl
    have f0 : (dz ys s (c + 1) T)[0]? = some (.lst (ys.map .int)) := rfl
    have w3 : ∀ z : Int, (dz ys s (c + 1) T).set 0 (.lst (ys.map D.int ++ [.int z])) = dz (ys ++ [z]) s (c + 1) T := fun z => by
      show _ :: _ = _ :: _
      rw [List.map_append]
      rfl
    rw [go_seq, go_set]
    simp only [go_meth, go_bin, go_c, go_var, go_ixZ (e1 (ys ++ [l])) (vc (c + 1)), Option.some.injEq, exists_eq_left', List.getElem?_cons_zero, List.getElem?_cons_succ, go_nil, isLst_ref y0, go_pop y0, pl, w2, true_and, List.set_cons_succ, List.set_cons_zero]
    rw [go_ifS]
    simp only [go_test, go_bin, go_c, go_var, List.getElem?_cons_zero, List.getElem?_cons_succ, go_powI, go_geI]
    refine ⟨⟨by decide, by decide, by decide⟩, _, rfl, ?_⟩
    split
    · rw [go_seq, go_drop]
      simp only [go_meth, go_bin, go_c, go_var, go_ixZ (e1 ys) (vc (c + 1)), Option.some.injEq, exists_eq_left', List.getElem?_cons_zero, List.getElem?_cons_succ, go_nil, go_cons, isLst_ref f0, true_and, go_fdivI, go_append f0, w3, go_ret, go_modI]
      refine ⟨?_, ?_, mn, ?_⟩
      · exact ⟨mn, by omega⟩
      · rw [List.length_map]
        omega
      · exact fin _ _ (by rw [List.length_append, List.length_singleton]; omega) (Int.fmod_nonneg_of_pos _ hm) (Int.fmod_lt_of_pos _ hm)
    · rw [go_next]
      exact tail ys l _ (by omega)
end Su
namespace K28
abbrev Rw := List Int
open PySem PySem.Spec PyProof.Rows L2 Ly Su
theorem e_deck : K28.f__law_deck = Su.f__law_deck := rfl
theorem e_draw : K28.f__law_draw = Su.f__law_draw := rfl
theorem e_is_sum : K28.f_is_sum = Su.f_is_sum := rfl
theorem e_added : K28.f_added = Su.f_added := rfl
theorem e_lessened : K28.f_lessened = Su.f_lessened := rfl
theorem e_times : K28.f_times = Su.f_times := rfl
theorem e_worth : K28.f_worth_at = Su.f_worth_at := rfl
theorem cut_ints (ns : List Int) (lo hi : Option Int) : ∃ xs : List Int, Ly.cutD (ns.map .int) lo hi = xs.map .int ∧ xs.length ≤ ns.length := by
  refine ⟨(ns.drop (HT.sIx (ns.map D.int).length 0 lo)).take (HT.sIx (ns.map D.int).length (ns.map D.int).length hi - HT.sIx (ns.map D.int).length 0 lo), ?_, ?_⟩
  · unfold Ly.cutD
    rw [List.map_take, List.map_drop]
  · rw [List.length_take, List.length_drop]
    omega
theorem intsOf_map : ∀ xs : List Int, intsOf (xs.map D.int) = some xs
  | [] => rfl
  | x :: xs => by
    show (intsOf (xs.map D.int)).map (fun r => x :: r) = _
    rw [intsOf_map xs]
    rfl
theorem go_sumI {M : Mem} {xs : List Int} {Q : D → Mem → Prop} : Go (fSum [.lst (xs.map .int)] M) Q = Q (.int xs.sum) M := by
  have e : fSum [.lst (xs.map .int)] M = .ok (.int xs.sum) M := by
    have : (lstOf (.lst (xs.map .int)) M).bind intsOf = some xs := intsOf_map xs
    simp only [fSum, this]
  rw [e]
  rfl
theorem deck_ok {ns : List Int} (hn : ns.length ≤ 63) {Q : D → Mem → Prop} (q : ∀ M, DzIs 0 [] M → Q (.ref 1) M) : Go (Su.f__law_deck [scriptD ns] []) Q := by
  obtain ⟨xs, hx, xl⟩ := cut_ints ns none (some 63)
  unfold Su.f__law_deck
  rw [go_callK]
  show GoS (Su.m__law_deck [some (.scr (ns.map .int)), none, none, none] []) _ _
  unfold Su.m__law_deck
  rw [go_seq, go_set]
  simp only [go_bin, go_un, go_var, go_c, go_test, go_andT, go_orT, go_notT, go_yes, go_andV, go_if, go_nil, go_cons, go_tup, go_lst, go_lstC, go_cb, go_call, go_callW, go_meth, go_noPart, go_part, go_sl, go_get, go_retN, go_lc, go_dc, go_iter, go_enum, go_rng, go_rng1, go_rng2, go_rng3, go_disp, go_pnil, go_pcons, go_bdT, go_bdF, go_ok, go_nx, go_rt, go_addI, go_addS, go_addT, go_addL, go_subI, go_mulI, go_mulL, go_modI, go_fdivI, go_powI, go_ltI, go_leI, go_gtI, go_geI, go_eqI, go_eqS, go_neI, go_neS, go_ixF, go_ixT, go_ixS, go_ixD, go_slT, go_slF, go_slR, go_slS, go_revF, go_revCF, go_revAT, go_revAL, List.getElem?_cons_zero, List.getElem?_cons_succ, List.set_cons_zero, List.set_cons_succ, List.length_cons, List.length_nil, D.int.injEq, D.bl.injEq, D.str.injEq, Option.some.injEq, exists_eq_left', go_listF, go_listT, go_tupleF, go_tupleT, go_lenF, go_lenT, go_lenS, go_isiS, go_isiI, go_intI, go_intB, go_maxI, it_lst, it_tupD, it_strD, en_lst, en_tup, fr_gN, wipeD, go_inTab, go_notInTab, go_tab, go_lc2, go_par2, go_par3, go_asg, go_isB, go_tell, go_kget, go_notB, go_slStep, go_slStepT, go_dictZip, go_setEq, hx, List.set_cons_zero, List.set_cons_succ]
  rw [go_seq, go_set]
  simp only [go_bin, go_un, go_var, go_c, go_test, go_andT, go_orT, go_notT, go_yes, go_andV, go_if, go_nil, go_cons, go_tup, go_lst, go_lstC, go_cb, go_call, go_callW, go_meth, go_noPart, go_part, go_sl, go_get, go_retN, go_lc, go_dc, go_iter, go_enum, go_rng, go_rng1, go_rng2, go_rng3, go_disp, go_pnil, go_pcons, go_bdT, go_bdF, go_ok, go_nx, go_rt, go_addI, go_addS, go_addT, go_addL, go_subI, go_mulI, go_mulL, go_modI, go_fdivI, go_powI, go_ltI, go_leI, go_gtI, go_geI, go_eqI, go_eqS, go_neI, go_neS, go_ixF, go_ixT, go_ixS, go_ixD, go_slT, go_slF, go_slR, go_slS, go_revF, go_revCF, go_revAT, go_revAL, List.getElem?_cons_zero, List.getElem?_cons_succ, List.set_cons_zero, List.set_cons_succ, List.length_cons, List.length_nil, D.int.injEq, D.bl.injEq, D.str.injEq, Option.some.injEq, exists_eq_left', go_listF, go_listT, go_tupleF, go_tupleT, go_lenF, go_lenT, go_lenS, go_isiS, go_isiI, go_intI, go_intB, go_maxI, it_lst, it_tupD, it_strD, en_lst, en_tup, fr_gN, wipeD, go_inTab, go_notInTab, go_tab, go_lc2, go_par2, go_par3, go_asg, go_isB, go_tell, go_kget, go_notB, go_slStep, go_slStepT, go_dictZip, go_setEq, List.set_cons_zero, List.set_cons_succ]
  refine cp_pure (f := D.int) (h := fun x => D.int (x.fmod 2147483629)) trivial xs [] (by rw [List.length_nil]; omega) (fun x _ => ⟨_, rfl, fun K hK => ?_⟩) ?_
  · simp only [go_bin, go_un, go_var, go_c, go_test, go_andT, go_orT, go_notT, go_yes, go_andV, go_if, go_nil, go_cons, go_tup, go_lst, go_lstC, go_cb, go_call, go_callW, go_meth, go_noPart, go_part, go_sl, go_get, go_retN, go_lc, go_dc, go_iter, go_enum, go_rng, go_rng1, go_rng2, go_rng3, go_disp, go_pnil, go_pcons, go_bdT, go_bdF, go_ok, go_nx, go_rt, go_addI, go_addS, go_addT, go_addL, go_subI, go_mulI, go_mulL, go_modI, go_fdivI, go_powI, go_ltI, go_leI, go_gtI, go_geI, go_eqI, go_eqS, go_neI, go_neS, go_ixF, go_ixT, go_ixS, go_ixD, go_slT, go_slF, go_slR, go_slS, go_revF, go_revCF, go_revAT, go_revAL, List.getElem?_cons_zero, List.getElem?_cons_succ, List.set_cons_zero, List.set_cons_succ, List.length_cons, List.length_nil, D.int.injEq, D.bl.injEq, D.str.injEq, Option.some.injEq, exists_eq_left', go_listF, go_listT, go_tupleF, go_tupleT, go_lenF, go_lenT, go_lenS, go_isiS, go_isiI, go_intI, go_intB, go_maxI, it_lst, it_tupD, it_strD, en_lst, en_tup, fr_gN, wipeD, go_inTab, go_notInTab, go_tab, go_lc2, go_par2, go_par3, go_asg, go_isB, go_tell, go_kget, go_notB, go_slStep, go_slStepT, go_dictZip, go_setEq, List.set_cons_zero, List.set_cons_succ]
    exact ⟨by decide, hK⟩
  rw [List.nil_append, show xs.map (fun x => D.int (x.fmod 2147483629)) = (xs.map fun x => x.fmod 2147483629).map D.int by rw [List.map_map]; rfl, go_sumI]
  generalize (xs.map fun x => x.fmod 2147483629).sum = t
  have t0 : 0 ≤ t.fmod 2147483629 := Int.fmod_nonneg_of_pos _ (by decide)
  have t1 : t.fmod 2147483629 < 2147483629 := Int.fmod_lt_of_pos _ (by decide)
  generalize hz : t.fmod 2147483629 = z at t0 t1
  simp only [go_bin, go_un, go_var, go_c, go_test, go_andT, go_orT, go_notT, go_yes, go_andV, go_if, go_nil, go_cons, go_tup, go_lst, go_lstC, go_cb, go_call, go_callW, go_meth, go_noPart, go_part, go_sl, go_get, go_retN, go_lc, go_dc, go_iter, go_enum, go_rng, go_rng1, go_rng2, go_rng3, go_disp, go_pnil, go_pcons, go_bdT, go_bdF, go_ok, go_nx, go_rt, go_addI, go_addS, go_addT, go_addL, go_subI, go_mulI, go_mulL, go_modI, go_fdivI, go_powI, go_ltI, go_leI, go_gtI, go_geI, go_eqI, go_eqS, go_neI, go_neS, go_ixF, go_ixT, go_ixS, go_ixD, go_slT, go_slF, go_slR, go_slS, go_revF, go_revCF, go_revAT, go_revAL, List.getElem?_cons_zero, List.getElem?_cons_succ, List.set_cons_zero, List.set_cons_succ, List.length_cons, List.length_nil, D.int.injEq, D.bl.injEq, D.str.injEq, Option.some.injEq, exists_eq_left', go_listF, go_listT, go_tupleF, go_tupleT, go_lenF, go_lenT, go_lenS, go_isiS, go_isiI, go_intI, go_intB, go_maxI, it_lst, it_tupD, it_strD, en_lst, en_tup, fr_gN, wipeD, go_inTab, go_notInTab, go_tab, go_lc2, go_par2, go_par3, go_asg, go_isB, go_tell, go_kget, go_notB, go_slStep, go_slStepT, go_dictZip, go_setEq, go_ret, hz, go_mulUI, List.length_map]
  refine ⟨by decide, cmulW (by decide) (by omega), _, rfl, Nat.le_of_ble_eq_true rfl, ?_⟩
  refine q _ ⟨xs.reverse, z + 7919 * (xs.length : Nat), 0, ?_, by rw [List.length_reverse]; omega, by omega, by omega, by decide, by decide⟩
  rw [← List.map_reverse]
  rfl
def Num (n : Int) : Prop := n ≠ 0 ∧ n.natAbs ≤ 200000000000
theorem number_ok {b : Nat} {T M : Mem} {Q : D → Mem → Prop} (h : DzIs b T M) (hb : b ≤ 900000) (q : ∀ n M', Num n → DzIs (b + 2) T M' → Q (.int n) M') : Go (f__law_number [.ref 1] M) Q := by
  unfold f__law_number
  rw [go_callD]
  show GoS (m__law_number [some (.ref 1)] M) _ _
  unfold m__law_number
  rw [e_draw]
  simp only [go_bin, go_un, go_var, go_c, go_test, go_andT, go_orT, go_notT, go_yes, go_andV, go_if, go_nil, go_cons, go_tup, go_lst, go_lstC, go_cb, go_call, go_callW, go_meth, go_noPart, go_part, go_sl, go_get, go_retN, go_lc, go_dc, go_iter, go_enum, go_rng, go_rng1, go_rng2, go_rng3, go_disp, go_pnil, go_pcons, go_bdT, go_bdF, go_ok, go_nx, go_rt, go_addI, go_addS, go_addT, go_addL, go_subI, go_mulI, go_mulL, go_modI, go_fdivI, go_powI, go_ltI, go_leI, go_gtI, go_geI, go_eqI, go_eqS, go_neI, go_neS, go_ixF, go_ixT, go_ixS, go_ixD, go_slT, go_slF, go_slR, go_slS, go_revF, go_revCF, go_revAT, go_revAL, List.getElem?_cons_zero, List.getElem?_cons_succ, List.set_cons_zero, List.set_cons_succ, List.length_cons, List.length_nil, D.int.injEq, D.bl.injEq, D.str.injEq, Option.some.injEq, exists_eq_left', go_listF, go_listT, go_tupleF, go_tupleT, go_lenF, go_lenT, go_lenS, go_isiS, go_isiI, go_intI, go_intB, go_maxI, it_lst, it_tupD, it_strD, en_lst, en_tup, fr_gN, wipeD, go_inTab, go_notInTab, go_tab, go_lc2, go_par2, go_par3, go_asg, go_isB, go_tell, go_kget, go_notB, go_slStep, go_slStepT, go_dictZip, go_setEq, go_ret]
  refine ⟨by unfold CPow; omega, by unfold CPow; omega, trivial, ?_⟩
  refine draw_ok h (by omega) (by decide) (by decide) fun r M1 r0 r1 h1 => ?_
  have p6 : (10 : Int) ^ (6 : Int).toNat = 1000000 := by decide
  have p11 : (10 : Int) ^ (11 : Int).toNat = 100000000000 := by decide
  rw [p6] at r1
  rw [p11, go_addI]
  refine ⟨by decide, trivial, draw_ok h1 (by omega) (by decide) (by decide) fun i M2 i0 i1 h2 => ?_⟩
  have fin : ∀ n, Num n → Go (Ly.finish M (.int n) M2) Q := fun n hn => go_fin_dz0 h h2 (frz_low rfl) fun M3 h3 => q n M3 hn h3
  have rr : i = 0 ∨ i = 1 ∨ i = 2 ∨ i = 3 ∨ i = 4 ∨ i = 5 ∨ i = 6 ∨ i = 7 ∨ i = 8 := by omega
  simp only [go_bin, go_un, go_var, go_c, go_test, go_andT, go_orT, go_notT, go_yes, go_andV, go_if, go_nil, go_cons, go_tup, go_lst, go_lstC, go_cb, go_call, go_callW, go_meth, go_noPart, go_part, go_sl, go_get, go_retN, go_lc, go_dc, go_iter, go_enum, go_rng, go_rng1, go_rng2, go_rng3, go_disp, go_pnil, go_pcons, go_bdT, go_bdF, go_ok, go_nx, go_rt, go_addI, go_addS, go_addT, go_addL, go_subI, go_mulI, go_mulL, go_modI, go_fdivI, go_powI, go_ltI, go_leI, go_gtI, go_geI, go_eqI, go_eqS, go_neI, go_neS, go_ixF, go_ixT, go_ixS, go_ixD, go_slT, go_slF, go_slR, go_slS, go_revF, go_revCF, go_revAT, go_revAL, List.getElem?_cons_zero, List.getElem?_cons_succ, List.set_cons_zero, List.set_cons_succ, List.length_cons, List.length_nil, D.int.injEq, D.bl.injEq, D.str.injEq, Option.some.injEq, exists_eq_left', go_listF, go_listT, go_tupleF, go_tupleT, go_lenF, go_lenT, go_lenS, go_isiS, go_isiI, go_intI, go_intB, go_maxI, it_lst, it_tupD, it_strD, en_lst, en_tup, fr_gN, wipeD, go_inTab, go_notInTab, go_tab, go_lc2, go_par2, go_par3, go_asg, go_isB, go_tell, go_kget, go_notB, go_slStep, go_slStepT, go_dictZip, go_setEq]
  rcases rr with rfl | rfl | rfl | rfl | rfl | rfl | rfl | rfl | rfl <;> exact ⟨_, rfl, fin _ ⟨by omega, by omega⟩⟩
theorem mem_put {d : Sm} {z : Rw} {n : Int} {p : Rw × Int} (h : p ∈ put d z n) : p ∈ d ∨ p = (z, n) := by
  unfold put at h
  split at h
  · obtain ⟨q, hq, e⟩ := List.mem_map.mp h
    split at e
    · next hz => rw [← e, hz]; exact .inr rfl
    · rw [← e]; exact .inl hq
  · rcases List.mem_append.mp h with h | h
    · exact .inl h
    · exact .inr (by simpa using h)
def RowQ (k : Nat) (z : Rw) : Prop := z.length = k ∧ ∀ i ∈ z, 0 ≤ i ∧ i ≤ 10
theorem row_ok {b k : Nat} {T M : Mem} {env : Ly.Env} {Q : List D → Mem → Prop} (e0 : env[0]? = some (some (.ref 1))) (e6 : ∀ x, (env.set 6 x)[0]? = some (some (.ref 1))) (h6 : 6 < env.length) (h : DzIs b T M) (hb : b ≤ 900000) (hk : k ≤ 4) (q : ∀ z M', RowQ k z → DzIs (b + 2 * k) T M' → Q (z.map D.int) M') :
    Go (compL (gN 6) mYes (mCall 2 Su.f__law_draw (mCons (mVar 0) (mCons (mBin opIx (mLst (mCons (mC (D.int 3)) (mCons (mC (D.int 11)) mNil))) (mCall 2 Su.f__law_draw (mCons (mVar 0) (mCons (mC (D.int 2)) mNil)))) mNil))) (fun _ => True) env ((List.range k).map fun i : Nat => D.int (0 + (i : Nat))) [] M) Q := by
  refine go_comp (fun rem acc M' => ∃ z : Rw, acc = z.map D.int ∧ (∀ i ∈ z, 0 ≤ i ∧ i ≤ 10) ∧ z.length + rem.length = k ∧ DzIs (b + 2 * z.length) T M') ?_ ?_ _ _ _ ⟨[], rfl, (fun _ h => by cases h), by simp, h⟩
  · rintro d rem acc M' ⟨z, rfl, hz, hl, h1⟩
    rw [List.length_cons] at hl
    refine ⟨trivial, env.set 6 (some d), rfl, ?_⟩
    simp only [go_yes, if_true, go_call, go_cons, go_nil, go_var, e6, go_bin, go_lst, go_c]
    refine ⟨by decide, by decide, draw_ok h1 (by omega) (by decide) (by decide) fun r M2 r0 r1 h2 => ?_⟩
    have fin : ∀ m : Int, 0 < m → m ≤ 11 → Go (Su.f__law_draw [.ref 1, .int m] M2) (fun y M3 => (z.map D.int).length + 1 ≤ 100000 ∧ ∃ z2 : Rw, z.map D.int ++ [y] = z2.map D.int ∧ (∀ i ∈ z2, 0 ≤ i ∧ i ≤ 10) ∧ z2.length + rem.length = k ∧ DzIs (b + 2 * z2.length) T M3) := fun m m0 m1 =>
      draw_ok h2 (by omega) m0 (by omega) fun x M3 x0 x1 h3 => ⟨by rw [List.length_map]; omega, z ++ [x], by rw [List.map_append]; rfl, fun i hi => by
        rcases List.mem_append.mp hi with hi | hi
        · exact hz i hi
        · rw [List.mem_singleton.mp hi]
          omega, by rw [List.length_append, List.length_singleton]; omega, h3.mono (by rw [List.length_append, List.length_singleton]; omega)⟩
    have rr : r = 0 ∨ r = 1 := by omega
    simp only [go_bin, go_un, go_var, go_c, go_test, go_andT, go_orT, go_notT, go_yes, go_andV, go_if, go_nil, go_cons, go_tup, go_lst, go_lstC, go_cb, go_call, go_callW, go_meth, go_noPart, go_part, go_sl, go_get, go_retN, go_lc, go_dc, go_iter, go_enum, go_rng, go_rng1, go_rng2, go_rng3, go_disp, go_pnil, go_pcons, go_bdT, go_bdF, go_ok, go_nx, go_rt, go_addI, go_addS, go_addT, go_addL, go_subI, go_mulI, go_mulL, go_modI, go_fdivI, go_powI, go_ltI, go_leI, go_gtI, go_geI, go_eqI, go_eqS, go_neI, go_neS, go_ixF, go_ixT, go_ixS, go_ixD, go_slT, go_slF, go_slR, go_slS, go_revF, go_revCF, go_revAT, go_revAL, List.getElem?_cons_zero, List.getElem?_cons_succ, List.set_cons_zero, List.set_cons_succ, List.length_cons, List.length_nil, D.int.injEq, D.bl.injEq, D.str.injEq, Option.some.injEq, exists_eq_left', go_listF, go_listT, go_tupleF, go_tupleT, go_lenF, go_lenT, go_lenS, go_isiS, go_isiI, go_intI, go_intB, go_maxI, it_lst, it_tupD, it_strD, en_lst, en_tup, fr_gN, wipeD, go_inTab, go_notInTab, go_tab, go_lc2, go_par2, go_par3, go_asg, go_isB, go_tell, go_kget, go_notB, go_slStep, go_slStepT, go_dictZip, go_setEq]
    rcases rr with rfl | rfl
    · exact ⟨_, rfl, by decide, fin 3 (by decide) (by decide)⟩
    · exact ⟨_, rfl, by decide, fin 11 (by decide) (by decide)⟩
  · rintro acc M' ⟨z, rfl, hz, hl, h1⟩
    rw [List.length_nil] at hl
    exact ⟨trivial, q z M' ⟨by omega, hz⟩ (h1.mono (by omega))⟩
structure SumQ (k : Nat) (s : Sm) : Prop where
  ok : SumOk k s
  ex : ∀ p ∈ s, ∀ i ∈ p.1, i ≤ 10
  nu : ∀ p ∈ s, p.2.natAbs ≤ 200000000000
theorem sum_ok {b k n : Nat} {T M : Mem} {Q : D → Mem → Prop} (h : DzIs b T M) (hb : b ≤ 800000) (hk : k ≤ 4) (hn : n ≤ 12) (q : ∀ s M', SumQ k s → s.length ≤ n → DzIs (b + 200) T M' → Q (sD s) M') : Go (f__law_sum [.ref 1, .int (k : Nat), .int (n : Nat)] M) Q := by
  unfold f__law_sum
  rw [go_callD]
  show GoS (m__law_sum [some (.ref 1), some (.int (k : Nat)), some (.int (n : Nat)), none, none, none, none] M) _ _
  unfold m__law_sum
  rw [go_seq, go_set]
  show Go (mTNew _ M) _
  rw [go_tnew, e_draw]
  have hm : M.length = T.length + 2 := h.len
  rw [go_seq, go_for]
  simp only [go_bin, go_un, go_var, go_c, go_test, go_andT, go_orT, go_notT, go_yes, go_andV, go_if, go_nil, go_cons, go_tup, go_lst, go_lstC, go_cb, go_call, go_callW, go_meth, go_noPart, go_part, go_sl, go_get, go_retN, go_lc, go_dc, go_iter, go_enum, go_rng, go_rng1, go_rng2, go_rng3, go_disp, go_pnil, go_pcons, go_bdT, go_bdF, go_ok, go_nx, go_rt, go_addI, go_addS, go_addT, go_addL, go_subI, go_mulI, go_mulL, go_modI, go_fdivI, go_powI, go_ltI, go_leI, go_gtI, go_geI, go_eqI, go_eqS, go_neI, go_neS, go_ixF, go_ixT, go_ixS, go_ixD, go_slT, go_slF, go_slR, go_slS, go_revF, go_revCF, go_revAT, go_revAL, List.getElem?_cons_zero, List.getElem?_cons_succ, List.set_cons_zero, List.set_cons_succ, List.length_cons, List.length_nil, D.int.injEq, D.bl.injEq, D.str.injEq, Option.some.injEq, exists_eq_left', go_listF, go_listT, go_tupleF, go_tupleT, go_lenF, go_lenT, go_lenS, go_isiS, go_isiI, go_intI, go_intB, go_maxI, it_lst, it_tupD, it_strD, en_lst, en_tup, fr_gN, wipeD, go_inTab, go_notInTab, go_tab, go_lc2, go_par2, go_par3, go_asg, go_isB, go_tell, go_kget, go_notB, go_slStep, go_slStepT, go_dictZip, go_setEq, List.set_cons_zero, List.set_cons_succ]
  refine ⟨trivial, draw_ok (h.push _) (by omega) (by omega) (by omega) fun r M1 r0 r1 h1 => ?_⟩
  simp only [go_bin, go_un, go_var, go_c, go_test, go_andT, go_orT, go_notT, go_yes, go_andV, go_if, go_nil, go_cons, go_tup, go_lst, go_lstC, go_cb, go_call, go_callW, go_meth, go_noPart, go_part, go_sl, go_get, go_retN, go_lc, go_dc, go_iter, go_enum, go_rng, go_rng1, go_rng2, go_rng3, go_disp, go_pnil, go_pcons, go_bdT, go_bdF, go_ok, go_nx, go_rt, go_addI, go_addS, go_addT, go_addL, go_subI, go_mulI, go_mulL, go_modI, go_fdivI, go_powI, go_ltI, go_leI, go_gtI, go_geI, go_eqI, go_eqS, go_neI, go_neS, go_ixF, go_ixT, go_ixS, go_ixD, go_slT, go_slF, go_slR, go_slS, go_revF, go_revCF, go_revAT, go_revAL, List.getElem?_cons_zero, List.getElem?_cons_succ, List.set_cons_zero, List.set_cons_succ, List.length_cons, List.length_nil, D.int.injEq, D.bl.injEq, D.str.injEq, Option.some.injEq, exists_eq_left', go_listF, go_listT, go_tupleF, go_tupleT, go_lenF, go_lenT, go_lenS, go_isiS, go_isiI, go_intI, go_intB, go_maxI, it_lst, it_tupD, it_strD, en_lst, en_tup, fr_gN, wipeD, go_inTab, go_notInTab, go_tab, go_lc2, go_par2, go_par3, go_asg, go_isB, go_tell, go_kget, go_notB, go_slStep, go_slStepT, go_dictZip, go_setEq]
  refine ⟨by unfold rngOk; omega, ?_⟩
  refine go_loop (fun rem env M' => ∃ d : Sm, (d.map (·.1)).Nodup ∧ (∀ p ∈ d, RowQ k p.1 ∧ Num p.2) ∧ d.length + rem.length ≤ r.toNat ∧ ∃ m, m + rem.length ≤ r.toNat ∧ DzIs (b + 1 + 11 * m) (T ++ [cellZ d]) M' ∧ ∃ u v w, env = [some (.ref 1), some (.int (k : Nat)), some (.int (n : Nat)), some (.ref M.length), u, v, w]) ?_ ?_ _ _ _ ⟨[], List.nodup_nil, (fun _ h => by cases h), by simp, 0, by simp, h1, _, _, _, rfl⟩
  · rintro x rem env M2 ⟨d, hd, hp, hl, m, hm2, h2, u, v, w, rfl⟩
    rw [List.length_cons] at hl hm2
    refine ⟨trivial, _, rfl, ?_⟩
    rw [go_seq, go_set]
    simp only [go_bin, go_un, go_var, go_c, go_test, go_andT, go_orT, go_notT, go_yes, go_andV, go_if, go_nil, go_cons, go_tup, go_lst, go_lstC, go_cb, go_call, go_callW, go_meth, go_noPart, go_part, go_sl, go_get, go_retN, go_lc, go_dc, go_iter, go_enum, go_rng, go_rng1, go_rng2, go_rng3, go_disp, go_pnil, go_pcons, go_bdT, go_bdF, go_ok, go_nx, go_rt, go_addI, go_addS, go_addT, go_addL, go_subI, go_mulI, go_mulL, go_modI, go_fdivI, go_powI, go_ltI, go_leI, go_gtI, go_geI, go_eqI, go_eqS, go_neI, go_neS, go_ixF, go_ixT, go_ixS, go_ixD, go_slT, go_slF, go_slR, go_slS, go_revF, go_revCF, go_revAT, go_revAL, List.getElem?_cons_zero, List.getElem?_cons_succ, List.set_cons_zero, List.set_cons_succ, List.length_cons, List.length_nil, D.int.injEq, D.bl.injEq, D.str.injEq, Option.some.injEq, exists_eq_left', go_listF, go_listT, go_tupleF, go_tupleT, go_lenF, go_lenT, go_lenS, go_isiS, go_isiI, go_intI, go_intB, go_maxI, it_lst, it_tupD, it_strD, en_lst, en_tup, fr_gN, wipeD, go_inTab, go_notInTab, go_tab, go_lc2, go_par2, go_par3, go_asg, go_isB, go_tell, go_kget, go_notB, go_slStep, go_slStepT, go_dictZip, go_setEq, List.set_cons_zero, List.set_cons_succ, true_and]
    refine ⟨by unfold rngOk; omega, ?_⟩
    rw [Int.toNat_natCast]
    refine row_ok rfl (fun _ => rfl) (Nat.le_refl 7) h2 (by omega) hk fun z M3 hz h3 => ?_
    rw [go_setItemT]
    simp only [go_bin, go_un, go_var, go_c, go_test, go_andT, go_orT, go_notT, go_yes, go_andV, go_if, go_nil, go_cons, go_tup, go_lst, go_lstC, go_cb, go_call, go_callW, go_meth, go_noPart, go_part, go_sl, go_get, go_retN, go_lc, go_dc, go_iter, go_enum, go_rng, go_rng1, go_rng2, go_rng3, go_disp, go_pnil, go_pcons, go_bdT, go_bdF, go_ok, go_nx, go_rt, go_addI, go_addS, go_addT, go_addL, go_subI, go_mulI, go_mulL, go_modI, go_fdivI, go_powI, go_ltI, go_leI, go_gtI, go_geI, go_eqI, go_eqS, go_neI, go_neS, go_ixF, go_ixT, go_ixS, go_ixD, go_slT, go_slF, go_slR, go_slS, go_revF, go_revCF, go_revAT, go_revAL, List.getElem?_cons_zero, List.getElem?_cons_succ, List.set_cons_zero, List.set_cons_succ, List.length_cons, List.length_nil, D.int.injEq, D.bl.injEq, D.str.injEq, Option.some.injEq, exists_eq_left', go_listF, go_listT, go_tupleF, go_tupleT, go_lenF, go_lenT, go_lenS, go_isiS, go_isiI, go_intI, go_intB, go_maxI, it_lst, it_tupD, it_strD, en_lst, en_tup, fr_gN, wipeD, go_inTab, go_notInTab, go_tab, go_lc2, go_par2, go_par3, go_asg, go_isB, go_tell, go_kget, go_notB, go_slStep, go_slStepT, go_dictZip, go_setEq, List.set_cons_zero, List.set_cons_succ, true_and]
    refine number_ok h3 (by omega) fun nn M4 hn4 h4 => ?_
    have at4 : M4[M.length]? = some (cellZ d) := by
      rw [hm, h4.get, List.getElem?_append_right (Nat.le_refl _), Nat.sub_self]
      rfl
    refine ⟨_, setMT_put at4 (by omega), put d z nn, nodup_put hd, fun p hpp => ?_, ?_, m + 1, by omega, ?_, _, _, _, rfl⟩
    · rcases mem_put hpp with hpp | rfl
      · exact hp p hpp
      · exact ⟨hz, hn4⟩
    · have := len_put (s := d) (z := z) (n := nn)
      omega
    · rw [hm]
      have h5 := h4.set T.length (cellZ (put d z nn))
      rw [List.set_append_right _ _ (Nat.le_refl _), Nat.sub_self] at h5
      exact h5.mono (by omega)
  · rintro env M2 ⟨d, hd, hp, hl, m, hm2, h2, u, v, w, rfl⟩
    refine ⟨trivial, ?_⟩
    have at2 : M2[M.length]? = some (cellZ d) := by
      rw [hm, h2.get, List.getElem?_append_right (Nat.le_refl _), Nat.sub_self]
      rfl
    rw [List.length_nil] at hl hm2
    simp only [go_ret, go_cb, go_cons, go_nil, go_sortIt (ps := d), go_var, List.getElem?_cons_succ, List.getElem?_cons_zero]
    rw [go_sortIt' (ps := d) (dct_cell at2)]
    refine ⟨by omega, ?_⟩
    rw [go_tupleFF]
    have ok : SumOk k (d.mergeSort leP) := items_ok hd fun p hpp => ⟨⟨(hp p hpp).1.1, fun i hi => ((hp p hpp).1.2 i hi).1⟩, (hp p hpp).2.1⟩
    have mem : ∀ p ∈ d.mergeSort leP, p ∈ d := fun p hpp => (List.mergeSort_perm _ _).mem_iff.mp hpp
    refine go_fin_dz (N := [cellZ d]) h h2 frz_sD fun M3 h3 => q _ M3 ⟨ok, fun p hpp i hi => ((hp p (mem p hpp)).1.2 i hi).2, fun p hpp => (hp p (mem p hpp)).2.2⟩ (by rw [List.length_mergeSort]; omega) (h3.mono (by omega))
end K28
namespace K28
open PySem PySem.Spec PyProof.Rows L2 Ly Su
section
variable {Q : D → Mem → Prop} {M : Mem} {s : Sm} {k : Nat}
theorem law_worth_ok {xs : Rw} (hk : xs.length ≤ 10) (hr : ∀ p ∈ s, p.1.length = xs.length ∧ ∀ i ∈ p.1, 0 ≤ i) (hz : Siz s xs) (q : Q (.int (wo xs s)) M) : Go (f__law_worth [sD s, tz xs] M) Q := by
  unfold f__law_worth
  rw [go_callD]
  show GoS (m__law_worth [some (sD s), some (tz xs), none, none, none, none, none, none] M) _ _
  unfold m__law_worth
  rw [go_seq, go_set]
  simp only [go_bin, go_un, go_var, go_c, go_test, go_andT, go_orT, go_notT, go_yes, go_andV, go_if, go_nil, go_cons, go_tup, go_lst, go_lstC, go_cb, go_call, go_callW, go_meth, go_noPart, go_part, go_sl, go_get, go_retN, go_lc, go_dc, go_iter, go_enum, go_rng, go_rng1, go_rng2, go_rng3, go_disp, go_pnil, go_pcons, go_bdT, go_bdF, go_ok, go_nx, go_rt, go_addI, go_addS, go_addT, go_addL, go_subI, go_mulI, go_mulL, go_modI, go_fdivI, go_powI, go_ltI, go_leI, go_gtI, go_geI, go_eqI, go_eqS, go_neI, go_neS, go_ixF, go_ixT, go_ixS, go_ixD, go_slT, go_slF, go_slR, go_slS, go_revF, go_revCF, go_revAT, go_revAL, List.getElem?_cons_zero, List.getElem?_cons_succ, List.set_cons_zero, List.set_cons_succ, List.length_cons, List.length_nil, D.int.injEq, D.bl.injEq, D.str.injEq, Option.some.injEq, exists_eq_left', go_listF, go_listT, go_tupleF, go_tupleT, go_lenF, go_lenT, go_lenS, go_isiS, go_isiI, go_intI, go_intB, go_maxI, it_lst, it_tupD, it_strD, en_lst, en_tup, fr_gN, wipeD, go_inTab, go_notInTab, go_tab, go_lc2, go_par2, go_par3, go_asg, go_isB, go_tell, go_kget, go_notB, go_slStep, go_slStepT, go_dictZip, go_setEq, List.set_cons_zero, List.set_cons_succ]
  rw [go_seq, go_for]
  simp only [go_bin, go_un, go_var, go_c, go_test, go_andT, go_orT, go_notT, go_yes, go_andV, go_if, go_nil, go_cons, go_tup, go_lst, go_lstC, go_cb, go_call, go_callW, go_meth, go_noPart, go_part, go_sl, go_get, go_retN, go_lc, go_dc, go_iter, go_enum, go_rng, go_rng1, go_rng2, go_rng3, go_disp, go_pnil, go_pcons, go_bdT, go_bdF, go_ok, go_nx, go_rt, go_addI, go_addS, go_addT, go_addL, go_subI, go_mulI, go_mulL, go_modI, go_fdivI, go_powI, go_ltI, go_leI, go_gtI, go_geI, go_eqI, go_eqS, go_neI, go_neS, go_ixF, go_ixT, go_ixS, go_ixD, go_slT, go_slF, go_slR, go_slS, go_revF, go_revCF, go_revAT, go_revAL, List.getElem?_cons_zero, List.getElem?_cons_succ, List.set_cons_zero, List.set_cons_succ, List.length_cons, List.length_nil, D.int.injEq, D.bl.injEq, D.str.injEq, Option.some.injEq, exists_eq_left', go_listF, go_listT, go_tupleF, go_tupleT, go_lenF, go_lenT, go_lenS, go_isiS, go_isiI, go_intI, go_intB, go_maxI, it_lst, it_tupD, it_strD, en_lst, en_tup, fr_gN, wipeD, go_inTab, go_notInTab, go_tab, go_lc2, go_par2, go_par3, go_asg, go_isB, go_tell, go_kget, go_notB, go_slStep, go_slStepT, go_dictZip, go_setEq, it_ftu]
  refine loop_fold (st := fun (acc : Int) env M' => M' = M ∧ ∃ a b c d e, env = [some (sD s), some (tz xs), some (.int acc), a, b, c, d, e]) (up := fun acc p => acc + p.2 * mon p.1 xs) (fun _ => trivial) s 0 _ _ ?_ ⟨rfl, _, _, _, _, _, rfl⟩ ?_
  · rintro pre p post hs env M' ⟨rfl, a, b, c, d, e, rfl⟩
    have hp : p ∈ s := by rw [hs]; simp
    obtain ⟨hp1, hp2⟩ := hr p hp
    refine ⟨_, rfl, ?_⟩
    generalize pre.foldl (fun acc p => acc + p.2 * mon p.1 xs) 0 = acc
    rw [go_seq, go_for]
    simp only [go_bin, go_un, go_var, go_c, go_test, go_andT, go_orT, go_notT, go_yes, go_andV, go_if, go_nil, go_cons, go_tup, go_lst, go_lstC, go_cb, go_call, go_callW, go_meth, go_noPart, go_part, go_sl, go_get, go_retN, go_lc, go_dc, go_iter, go_enum, go_rng, go_rng1, go_rng2, go_rng3, go_disp, go_pnil, go_pcons, go_bdT, go_bdF, go_ok, go_nx, go_rt, go_addI, go_addS, go_addT, go_addL, go_subI, go_mulI, go_mulL, go_modI, go_fdivI, go_powI, go_ltI, go_leI, go_gtI, go_geI, go_eqI, go_eqS, go_neI, go_neS, go_ixF, go_ixT, go_ixS, go_ixD, go_slT, go_slF, go_slR, go_slS, go_revF, go_revCF, go_revAT, go_revAL, List.getElem?_cons_zero, List.getElem?_cons_succ, List.set_cons_zero, List.set_cons_succ, List.length_cons, List.length_nil, D.int.injEq, D.bl.injEq, D.str.injEq, Option.some.injEq, exists_eq_left', go_listF, go_listT, go_tupleF, go_tupleT, go_lenF, go_lenT, go_lenS, go_isiS, go_isiI, go_intI, go_intB, go_maxI, it_lst, it_tupD, it_strD, en_lst, en_tup, fr_gN, wipeD, go_inTab, go_notInTab, go_tab, go_lc2, go_par2, go_par3, go_asg, go_isB, go_tell, go_kget, go_notB, go_slStep, go_slStepT, go_dictZip, go_setEq, List.set_cons_zero, List.set_cons_succ]
    rw [go_zipP (t := ⟨p.1.map D.int, fun _ => True⟩) (u := ⟨xs.map D.int, fun _ => True⟩) rfl rfl]
    dsimp only
    rw [Su.paired_ints]
    have big : ∀ q ∈ p.1.zip xs, (q.2 ^ q.1.toNat).natAbs ≤ 2 ^ 10001 ∧ 0 ≤ q.1 ∧ q.1 ≤ 1000 ∧ q.2.natAbs ≤ 2 ^ 10 := fun q hq => by
      obtain ⟨i1, i2⟩ := List.of_mem_zip (a := q.1) (b := q.2) hq
      have j1 := hp2 _ i1
      have j2 := hz.ex p hp _ i1
      have j3 := hz.xs _ i2
      exact ⟨Nat.le_of_lt (pow_lt j3 (by omega)), j1, j2, j3⟩
    refine loop_fold (f := fun r : Int × Int => D.tup [.int r.1, .int r.2]) (st := fun (h : Int) env N => N = M' ∧ ∃ d e g, env = [some (sD s), some (tz xs), some (.int acc), some (tz p.1), some (.int h), d, e, g]) (up := fun h r => h * r.2 ^ r.1.toNat) (fun _ => ⟨trivial, trivial⟩) (p.1.zip xs) p.2 _ _ ?_ ⟨rfl, _, _, _, rfl⟩ ?_
    · rintro pre2 r post2 hz2 env N ⟨rfl, d, e, g, rfl⟩
      have hr : r ∈ p.1.zip xs := by rw [hz2]; simp
      obtain ⟨b1, b2, b3, b4⟩ := big r hr
      have hb := fold_bound (b := 0) pre2 p.2 1000 (hz.nu p hp) fun q hq => (big q (by rw [hz2]; exact List.mem_append_left _ hq)).1
      have hl : pre2.length ≤ 10 := by
        have e := congrArg List.length hz2
        rw [List.length_zip, List.length_append, List.length_cons] at e
        omega
      generalize pre2.foldl (fun h r => h * r.2 ^ r.1.toNat) p.2 = h at hb ⊢
      refine ⟨_, rfl, ?_⟩
      rw [go_for]
      simp only [go_bin, go_un, go_var, go_c, go_test, go_andT, go_orT, go_notT, go_yes, go_andV, go_if, go_nil, go_cons, go_tup, go_lst, go_lstC, go_cb, go_call, go_callW, go_meth, go_noPart, go_part, go_sl, go_get, go_retN, go_lc, go_dc, go_iter, go_enum, go_rng, go_rng1, go_rng2, go_rng3, go_disp, go_pnil, go_pcons, go_bdT, go_bdF, go_ok, go_nx, go_rt, go_addI, go_addS, go_addT, go_addL, go_subI, go_mulI, go_mulL, go_modI, go_fdivI, go_powI, go_ltI, go_leI, go_gtI, go_geI, go_eqI, go_eqS, go_neI, go_neS, go_ixF, go_ixT, go_ixS, go_ixD, go_slT, go_slF, go_slR, go_slS, go_revF, go_revCF, go_revAT, go_revAL, List.getElem?_cons_zero, List.getElem?_cons_succ, List.set_cons_zero, List.set_cons_succ, List.length_cons, List.length_nil, D.int.injEq, D.bl.injEq, D.str.injEq, Option.some.injEq, exists_eq_left', go_listF, go_listT, go_tupleF, go_tupleT, go_lenF, go_lenT, go_lenS, go_isiS, go_isiI, go_intI, go_intB, go_maxI, it_lst, it_tupD, it_strD, en_lst, en_tup, fr_gN, wipeD, go_inTab, go_notInTab, go_tab, go_lc2, go_par2, go_par3, go_asg, go_isB, go_tell, go_kget, go_notB, go_slStep, go_slStepT, go_dictZip, go_setEq, List.set_cons_zero, List.set_cons_succ]
      refine ⟨by unfold rngOk; omega, ?_⟩
      refine loop_fold (f := fun i : Nat => D.int (0 + (i : Nat))) (st := fun (z : Int) env N' => N' = N ∧ ∃ g, env = [some (sD s), some (tz xs), some (.int acc), some (tz p.1), some (.int z), some (.int r.1), some (.int r.2), g]) (up := fun z _ => z * r.2) (fun _ => trivial) (List.range r.1.toNat) h _ _ ?_ ⟨rfl, _, rfl⟩ ?_
      · rintro pre3 y post3 hs3 env N' ⟨rfl, g, rfl⟩
        refine ⟨_, rfl, ?_⟩
        rw [go_set]
        simp only [go_bin, go_un, go_var, go_c, go_test, go_andT, go_orT, go_notT, go_yes, go_andV, go_if, go_nil, go_cons, go_tup, go_lst, go_lstC, go_cb, go_call, go_callW, go_meth, go_noPart, go_part, go_sl, go_get, go_retN, go_lc, go_dc, go_iter, go_enum, go_rng, go_rng1, go_rng2, go_rng3, go_disp, go_pnil, go_pcons, go_bdT, go_bdF, go_ok, go_nx, go_rt, go_addI, go_addS, go_addT, go_addL, go_subI, go_mulI, go_mulL, go_modI, go_fdivI, go_powI, go_ltI, go_leI, go_gtI, go_geI, go_eqI, go_eqS, go_neI, go_neS, go_ixF, go_ixT, go_ixS, go_ixD, go_slT, go_slF, go_slR, go_slS, go_revF, go_revCF, go_revAT, go_revAL, List.getElem?_cons_zero, List.getElem?_cons_succ, List.set_cons_zero, List.set_cons_succ, List.length_cons, List.length_nil, D.int.injEq, D.bl.injEq, D.str.injEq, Option.some.injEq, exists_eq_left', go_listF, go_listT, go_tupleF, go_tupleT, go_lenF, go_lenT, go_lenS, go_isiS, go_isiI, go_intI, go_intB, go_maxI, it_lst, it_tupD, it_strD, en_lst, en_tup, fr_gN, wipeD, go_inTab, go_notInTab, go_tab, go_lc2, go_par2, go_par3, go_asg, go_isB, go_tell, go_kget, go_notB, go_slStep, go_slStepT, go_dictZip, go_setEq, List.set_cons_zero, List.set_cons_succ, go_mulUI]
        have hl3 : pre3.length < r.1.toNat := by
          have e := congrArg List.length hs3
          rw [List.length_range, List.length_append, List.length_cons] at e
          omega
        rw [fold_mul]
        have hb2 : (h * r.2 ^ pre3.length).natAbs ≤ 2 ^ (1000 + 10001 * pre2.length + 10001) := by
          rw [Int.natAbs_mul, Nat.pow_add]
          exact Nat.mul_le_mul hb (Nat.le_of_lt (pow_lt b4 (by omega)))
        refine ⟨cmulB (a := 111013) (b := 11) (Nat.lt_of_le_of_lt hb2 (Nat.pow_lt_pow_right (by decide) ?_)) (Nat.lt_of_le_of_lt b4 (Nat.pow_lt_pow_right (by decide) (by decide))) (by decide), trivial, _, rfl⟩
        have : 10001 * pre2.length ≤ 10001 * 10 := Nat.mul_le_mul_left _ hl
        omega
      · rintro env N' ⟨rfl, g, rfl⟩
        rw [fold_mul, List.length_range]
        exact ⟨rfl, _, _, _, rfl⟩
    · rintro env N ⟨rfl, d, e, g, rfl⟩
      rw [fold_mon]
      show Go (opAdd (.int acc) (.int (p.2 * mon p.1 xs)) N) _
      rw [go_addI]
      exact ⟨rfl, _, _, _, _, _, rfl⟩
  · rintro env M' ⟨rfl, a, b, c, d, e, rfl⟩
    simp only [go_bin, go_un, go_var, go_c, go_test, go_andT, go_orT, go_notT, go_yes, go_andV, go_if, go_nil, go_cons, go_tup, go_lst, go_lstC, go_cb, go_call, go_callW, go_meth, go_noPart, go_part, go_sl, go_get, go_retN, go_lc, go_dc, go_iter, go_enum, go_rng, go_rng1, go_rng2, go_rng3, go_disp, go_pnil, go_pcons, go_bdT, go_bdF, go_ok, go_nx, go_rt, go_addI, go_addS, go_addT, go_addL, go_subI, go_mulI, go_mulL, go_modI, go_fdivI, go_powI, go_ltI, go_leI, go_gtI, go_geI, go_eqI, go_eqS, go_neI, go_neS, go_ixF, go_ixT, go_ixS, go_ixD, go_slT, go_slF, go_slR, go_slS, go_revF, go_revCF, go_revAT, go_revAL, List.getElem?_cons_zero, List.getElem?_cons_succ, List.set_cons_zero, List.set_cons_succ, List.length_cons, List.length_nil, D.int.injEq, D.bl.injEq, D.str.injEq, Option.some.injEq, exists_eq_left', go_listF, go_listT, go_tupleF, go_tupleT, go_lenF, go_lenT, go_lenS, go_isiS, go_isiI, go_intI, go_intB, go_maxI, it_lst, it_tupD, it_strD, en_lst, en_tup, fr_gN, wipeD, go_inTab, go_notInTab, go_tab, go_lc2, go_par2, go_par3, go_asg, go_isB, go_tell, go_kget, go_notB, go_slStep, go_slStepT, go_dictZip, go_setEq, go_ret]
    rw [wo_fold, Int.zero_add]
    exact go_fin_same rfl q
end
end K28
namespace K28
open PySem PySem.Spec PyProof.Rows L2 Ly Su
open Sk (wX sX sX_mem sX_len)
section
variable {Q : D → Mem → Prop} {M : Mem} {j e k : Nat} {d : D}
theorem law_whole_ok (h : Pq j e d) (q : Q (.bl (whB d)) M) : Go (f__law_whole [d] M) Q := by
  unfold f__law_whole
  rw [go_callD]
  show GoS (m__law_whole [some d] M) _ _
  unfold m__law_whole
  simp only [go_bin, go_un, go_var, go_c, go_test, go_andT, go_orT, go_notT, go_yes, go_andV, go_if, go_nil, go_cons, go_tup, go_lst, go_lstC, go_cb, go_call, go_callW, go_meth, go_noPart, go_part, go_sl, go_get, go_retN, go_lc, go_dc, go_iter, go_enum, go_rng, go_rng1, go_rng2, go_rng3, go_disp, go_pnil, go_pcons, go_bdT, go_bdF, go_ok, go_nx, go_rt, go_addI, go_addS, go_addT, go_addL, go_subI, go_mulI, go_mulL, go_modI, go_fdivI, go_powI, go_ltI, go_leI, go_gtI, go_geI, go_eqI, go_eqS, go_neI, go_neS, go_ixF, go_ixT, go_ixS, go_ixD, go_slT, go_slF, go_slR, go_slS, go_revF, go_revCF, go_revAT, go_revAL, List.getElem?_cons_zero, List.getElem?_cons_succ, List.set_cons_zero, List.set_cons_succ, List.length_cons, List.length_nil, D.int.injEq, D.bl.injEq, D.str.injEq, Option.some.injEq, exists_eq_left', go_listF, go_listT, go_tupleF, go_tupleT, go_lenF, go_lenT, go_lenS, go_isiS, go_isiI, go_intI, go_intB, go_maxI, it_lst, it_tupD, it_strD, en_lst, en_tup, fr_gN, wipeD, go_inTab, go_notInTab, go_tab, go_lc2, go_par2, go_par3, go_asg, go_isB, go_tell, go_kget, go_notB, go_slStep, go_slStepT, go_dictZip, go_setEq, go_ret, go_notV, isi_intQ h, isi_boolQ h]
  have fin : ∀ b, Q (.bl b) M → Go (Ly.finish M (.bl b) M) Q := fun b q => go_fin_same rfl q
  cases h <;> exact fin _ q
noncomputable def bodyS : MS := (mSeq (mIfS (mOrT (mNotT (mTest (mCB fIsi (mCons (mVar 2) (mCons (mC (.ty "tuple")) mNil))))) (mOrT (mTest (mBin opNe (mCB fLen (mCons (mVar 2) mNil)) (mC (.int 2)))) (mOrT (mNotT (mTest (mCB fIsi (mCons (mBin opIx (mVar 2) (mC (.int 0))) (mCons (mC (.ty "tuple")) mNil))))) (mTest (mBin opNe (mCB fLen (mCons (mBin opIx (mVar 2) (mC (.int 0))) mNil)) (mVar 0)))))) (mRet (mC (.bl false))) mNext)
  (mSeq (mIfS (mTest (mBin opNeEL (mLc (mIter (mBin opIx (mVar 2) (mC (.int 0)))) (gN 4) (mOrT (mNotT (mTest (mCall 1 f__law_whole (mCons (mVar 4) mNil)))) (mTest (mBin opLtT (mVar 4) (mC (.int 0))))) (mVar 4) [4]) (mLst mNil))) (mRet (mC (.bl false))) mNext)
  (mIfS (mOrT (mNotT (mTest (mCall 1 f__law_whole (mCons (mBin opIx (mVar 2) (mC (.int 1))) mNil)))) (mTest (mBin opEq (mBin opIx (mVar 2) (mC (.int 1))) (mC (.int 0))))) (mRet (mC (.bl false))) mNext)))
theorem go_eqL {M : Mem} {ds : List D} {Q : D → Mem → Prop} (hl : ∀ d ∈ ds, layB d = true) : Go (opEq (.lst ds) (.lst []) M) Q = Q (.bl ds.isEmpty) M := by
  have e : opEq (.lst ds) (.lst []) M = .ok (.bl ds.isEmpty) M := by
    unfold opEq
    simp only [eqM_lst hl]
  rw [e]
  rfl
def hdB (k : Nat) (ds : List D) : Bool := match ds with
  | p :: _ => (match tupV p with
    | some es => decide (es.length = k)
    | none => false)
  | [] => false
theorem part_ok {x : D} {S : Ly.Env → Mem → Prop} {R : D → Mem → Prop} (h : Pq j e x) (hj : j ≤ 1000) (hw : wX x ≤ 16000) (yes : paB k x = true → S [some (.int (k : Nat)), some d, some x, none, none] M) (no : paB k x = false → R (.bl false) M) :
    GoS (bodyS [some (.int (k : Nat)), some d, some x, none, none] M) S R := by
  have r0 : ∀ env, paB k x = false → GoS (mRet (mC (.bl false)) env M) S R := fun env hn => by
    rw [go_ret]
    exact no hn
  unfold bodyS
  rw [go_seq, go_ifS]
  cases hx : tupV x with
  | none =>
    have hn : paB k x = false := by unfold paB; rw [hx]
    refine go_orT' (c1 := true) (c2 := true) (fun K hK => ?_) (fun h => by cases h) ?_
    · simp only [go_bin, go_un, go_var, go_c, go_test, go_andT, go_orT, go_notT, go_yes, go_andV, go_if, go_nil, go_cons, go_tup, go_lst, go_lstC, go_cb, go_call, go_callW, go_meth, go_noPart, go_part, go_sl, go_get, go_retN, go_lc, go_dc, go_iter, go_enum, go_rng, go_rng1, go_rng2, go_rng3, go_disp, go_pnil, go_pcons, go_bdT, go_bdF, go_ok, go_nx, go_rt, go_addI, go_addS, go_addT, go_addL, go_subI, go_mulI, go_mulL, go_modI, go_fdivI, go_powI, go_ltI, go_leI, go_gtI, go_geI, go_eqI, go_eqS, go_neI, go_neS, go_ixF, go_ixT, go_ixS, go_ixD, go_slT, go_slF, go_slR, go_slS, go_revF, go_revCF, go_revAT, go_revAL, List.getElem?_cons_zero, List.getElem?_cons_succ, List.set_cons_zero, List.set_cons_succ, List.length_cons, List.length_nil, D.int.injEq, D.bl.injEq, D.str.injEq, Option.some.injEq, exists_eq_left', go_listF, go_listT, go_tupleF, go_tupleT, go_lenF, go_lenT, go_lenS, go_isiS, go_isiI, go_intI, go_intB, go_maxI, it_lst, it_tupD, it_strD, en_lst, en_tup, fr_gN, wipeD, go_inTab, go_notInTab, go_tab, go_lc2, go_par2, go_par3, go_asg, go_isB, go_tell, go_kget, go_notB, go_slStep, go_slStepT, go_dictZip, go_setEq, isi_tupQ h, hx]
      exact hK
    · exact r0 [some (.int (k : Nat)), some d, some x, none, none] hn
  | some ds =>
    obtain ⟨e0, rfl, v⟩ := h.view hj hx
    refine go_orT' (c1 := false) (c2 := !(decide (ds.length = 2) && hdB k ds)) (fun K hK => ?_) (fun _ K hK => ?_) ?_
    · simp only [go_bin, go_un, go_var, go_c, go_test, go_andT, go_orT, go_notT, go_yes, go_andV, go_if, go_nil, go_cons, go_tup, go_lst, go_lstC, go_cb, go_call, go_callW, go_meth, go_noPart, go_part, go_sl, go_get, go_retN, go_lc, go_dc, go_iter, go_enum, go_rng, go_rng1, go_rng2, go_rng3, go_disp, go_pnil, go_pcons, go_bdT, go_bdF, go_ok, go_nx, go_rt, go_addI, go_addS, go_addT, go_addL, go_subI, go_mulI, go_mulL, go_modI, go_fdivI, go_powI, go_ltI, go_leI, go_gtI, go_geI, go_eqI, go_eqS, go_neI, go_neS, go_ixF, go_ixT, go_ixS, go_ixD, go_slT, go_slF, go_slR, go_slS, go_revF, go_revCF, go_revAT, go_revAL, List.getElem?_cons_zero, List.getElem?_cons_succ, List.set_cons_zero, List.set_cons_succ, List.length_cons, List.length_nil, D.int.injEq, D.bl.injEq, D.str.injEq, Option.some.injEq, exists_eq_left', go_listF, go_listT, go_tupleF, go_tupleT, go_lenF, go_lenT, go_lenS, go_isiS, go_isiI, go_intI, go_intB, go_maxI, it_lst, it_tupD, it_strD, en_lst, en_tup, fr_gN, wipeD, go_inTab, go_notInTab, go_tab, go_lc2, go_par2, go_par3, go_asg, go_isB, go_tell, go_kget, go_notB, go_slStep, go_slStepT, go_dictZip, go_setEq, isi_tupQ h, hx]
      exact hK
    · by_cases h2 : ds.length = 2
      · obtain ⟨p, n, rfl⟩ : ∃ p n, ds = [p, n] := by
          match ds, h2 with
          | [p, n], _ => exact ⟨p, n, rfl⟩
        rw [decide_eq_true h2, Bool.true_and] at hK
        unfold hdB at hK
        dsimp only at hK
        refine go_orT' (c1 := false) (c2 := !(match tupV p with | some es => decide (es.length = k) | none => false)) (fun K hK => ?_) (fun _ K hK => ?_) hK
        · simp only [go_bin, go_un, go_var, go_c, go_test, go_andT, go_orT, go_notT, go_yes, go_andV, go_if, go_nil, go_cons, go_tup, go_lst, go_lstC, go_cb, go_call, go_callW, go_meth, go_noPart, go_part, go_sl, go_get, go_retN, go_lc, go_dc, go_iter, go_enum, go_rng, go_rng1, go_rng2, go_rng3, go_disp, go_pnil, go_pcons, go_bdT, go_bdF, go_ok, go_nx, go_rt, go_addI, go_addS, go_addT, go_addL, go_subI, go_mulI, go_mulL, go_modI, go_fdivI, go_powI, go_ltI, go_leI, go_gtI, go_geI, go_eqI, go_eqS, go_neI, go_neS, go_ixF, go_ixT, go_ixS, go_ixD, go_slT, go_slF, go_slR, go_slS, go_revF, go_revCF, go_revAT, go_revAL, List.getElem?_cons_zero, List.getElem?_cons_succ, List.set_cons_zero, List.set_cons_succ, List.length_cons, List.length_nil, D.int.injEq, D.bl.injEq, D.str.injEq, Option.some.injEq, exists_eq_left', go_listF, go_listT, go_tupleF, go_tupleT, go_lenF, go_lenT, go_lenS, go_isiS, go_isiI, go_intI, go_intB, go_maxI, it_lst, it_tupD, it_strD, en_lst, en_tup, fr_gN, wipeD, go_inTab, go_notInTab, go_tab, go_lc2, go_par2, go_par3, go_asg, go_isB, go_tell, go_kget, go_notB, go_slStep, go_slStepT, go_dictZip, go_setEq, v.ln, go_ok]
          exact hK
        · have vp := v.all p (by simp)
          have ip := v.ix 0 p M rfl
          cases hp : tupV p with
          | none =>
            rw [hp] at hK
            refine go_orT' (c1 := true) (c2 := true) (fun K hK => ?_) (fun h => by cases h) hK
            simp only [go_bin, go_un, go_var, go_c, go_test, go_andT, go_orT, go_notT, go_yes, go_andV, go_if, go_nil, go_cons, go_tup, go_lst, go_lstC, go_cb, go_call, go_callW, go_meth, go_noPart, go_part, go_sl, go_get, go_retN, go_lc, go_dc, go_iter, go_enum, go_rng, go_rng1, go_rng2, go_rng3, go_disp, go_pnil, go_pcons, go_bdT, go_bdF, go_ok, go_nx, go_rt, go_addI, go_addS, go_addT, go_addL, go_subI, go_mulI, go_mulL, go_modI, go_fdivI, go_powI, go_ltI, go_leI, go_gtI, go_geI, go_eqI, go_eqS, go_neI, go_neS, go_ixF, go_ixT, go_ixS, go_ixD, go_slT, go_slF, go_slR, go_slS, go_revF, go_revCF, go_revAT, go_revAL, List.getElem?_cons_zero, List.getElem?_cons_succ, List.set_cons_zero, List.set_cons_succ, List.length_cons, List.length_nil, D.int.injEq, D.bl.injEq, D.str.injEq, Option.some.injEq, exists_eq_left', go_listF, go_listT, go_tupleF, go_tupleT, go_lenF, go_lenT, go_lenS, go_isiS, go_isiI, go_intI, go_intB, go_maxI, it_lst, it_tupD, it_strD, en_lst, en_tup, fr_gN, wipeD, go_inTab, go_notInTab, go_tab, go_lc2, go_par2, go_par3, go_asg, go_isB, go_tell, go_kget, go_notB, go_slStep, go_slStepT, go_dictZip, go_setEq, ip, go_ok, isi_tupQ vp, hp]
            exact hK
          | some es =>
            rw [hp] at hK
            obtain ⟨e1, _, v2⟩ := vp.view hj hp
            refine go_orT' (c1 := false) (c2 := !decide (es.length = k)) (fun K hK => ?_) (fun _ K hK => ?_) hK
            · simp only [go_bin, go_un, go_var, go_c, go_test, go_andT, go_orT, go_notT, go_yes, go_andV, go_if, go_nil, go_cons, go_tup, go_lst, go_lstC, go_cb, go_call, go_callW, go_meth, go_noPart, go_part, go_sl, go_get, go_retN, go_lc, go_dc, go_iter, go_enum, go_rng, go_rng1, go_rng2, go_rng3, go_disp, go_pnil, go_pcons, go_bdT, go_bdF, go_ok, go_nx, go_rt, go_addI, go_addS, go_addT, go_addL, go_subI, go_mulI, go_mulL, go_modI, go_fdivI, go_powI, go_ltI, go_leI, go_gtI, go_geI, go_eqI, go_eqS, go_neI, go_neS, go_ixF, go_ixT, go_ixS, go_ixD, go_slT, go_slF, go_slR, go_slS, go_revF, go_revCF, go_revAT, go_revAL, List.getElem?_cons_zero, List.getElem?_cons_succ, List.set_cons_zero, List.set_cons_succ, List.length_cons, List.length_nil, D.int.injEq, D.bl.injEq, D.str.injEq, Option.some.injEq, exists_eq_left', go_listF, go_listT, go_tupleF, go_tupleT, go_lenF, go_lenT, go_lenS, go_isiS, go_isiI, go_intI, go_intB, go_maxI, it_lst, it_tupD, it_strD, en_lst, en_tup, fr_gN, wipeD, go_inTab, go_notInTab, go_tab, go_lc2, go_par2, go_par3, go_asg, go_isB, go_tell, go_kget, go_notB, go_slStep, go_slStepT, go_dictZip, go_setEq, ip, go_ok, isi_tupQ vp, hp]
              exact hK
            · simp only [go_bin, go_un, go_var, go_c, go_test, go_andT, go_orT, go_notT, go_yes, go_andV, go_if, go_nil, go_cons, go_tup, go_lst, go_lstC, go_cb, go_call, go_callW, go_meth, go_noPart, go_part, go_sl, go_get, go_retN, go_lc, go_dc, go_iter, go_enum, go_rng, go_rng1, go_rng2, go_rng3, go_disp, go_pnil, go_pcons, go_bdT, go_bdF, go_ok, go_nx, go_rt, go_addI, go_addS, go_addT, go_addL, go_subI, go_mulI, go_mulL, go_modI, go_fdivI, go_powI, go_ltI, go_leI, go_gtI, go_geI, go_eqI, go_eqS, go_neI, go_neS, go_ixF, go_ixT, go_ixS, go_ixD, go_slT, go_slF, go_slR, go_slS, go_revF, go_revCF, go_revAT, go_revAL, List.getElem?_cons_zero, List.getElem?_cons_succ, List.set_cons_zero, List.set_cons_succ, List.length_cons, List.length_nil, D.int.injEq, D.bl.injEq, D.str.injEq, Option.some.injEq, exists_eq_left', go_listF, go_listT, go_tupleF, go_tupleT, go_lenF, go_lenT, go_lenS, go_isiS, go_isiI, go_intI, go_intB, go_maxI, it_lst, it_tupD, it_strD, en_lst, en_tup, fr_gN, wipeD, go_inTab, go_notInTab, go_tab, go_lc2, go_par2, go_par3, go_asg, go_isB, go_tell, go_kget, go_notB, go_slStep, go_slStepT, go_dictZip, go_setEq, ip, go_ok, v2.ln]
              have e3 : decide (((es.length : Nat) : Int) = ((k : Nat) : Int)) = decide (es.length = k) := by
                by_cases hh : es.length = k
                · rw [decide_eq_true hh, decide_eq_true (by omega)]
                · rw [decide_eq_false hh, decide_eq_false (by omega)]
              rw [e3]
              exact hK
      · rw [decide_eq_false h2, Bool.false_and] at hK
        refine go_orT' (c1 := true) (c2 := true) (fun K hK => ?_) (fun h => by cases h) hK
        simp only [go_bin, go_un, go_var, go_c, go_test, go_andT, go_orT, go_notT, go_yes, go_andV, go_if, go_nil, go_cons, go_tup, go_lst, go_lstC, go_cb, go_call, go_callW, go_meth, go_noPart, go_part, go_sl, go_get, go_retN, go_lc, go_dc, go_iter, go_enum, go_rng, go_rng1, go_rng2, go_rng3, go_disp, go_pnil, go_pcons, go_bdT, go_bdF, go_ok, go_nx, go_rt, go_addI, go_addS, go_addT, go_addL, go_subI, go_mulI, go_mulL, go_modI, go_fdivI, go_powI, go_ltI, go_leI, go_gtI, go_geI, go_eqI, go_eqS, go_neI, go_neS, go_ixF, go_ixT, go_ixS, go_ixD, go_slT, go_slF, go_slR, go_slS, go_revF, go_revCF, go_revAT, go_revAL, List.getElem?_cons_zero, List.getElem?_cons_succ, List.set_cons_zero, List.set_cons_succ, List.length_cons, List.length_nil, D.int.injEq, D.bl.injEq, D.str.injEq, Option.some.injEq, exists_eq_left', go_listF, go_listT, go_tupleF, go_tupleT, go_lenF, go_lenT, go_lenS, go_isiS, go_isiI, go_intI, go_intB, go_maxI, it_lst, it_tupD, it_strD, en_lst, en_tup, fr_gN, wipeD, go_inTab, go_notInTab, go_tab, go_lc2, go_par2, go_par3, go_asg, go_isB, go_tell, go_kget, go_notB, go_slStep, go_slStepT, go_dictZip, go_setEq, v.ln, go_ok]
        rw [decide_eq_false (show ¬ ((ds.length : Nat) : Int) = 2 by omega)]
        exact hK
    · rw [Bool.false_or]
      by_cases hg : ∃ p n es, ds = [p, n] ∧ tupV p = some es ∧ es.length = k
      · obtain ⟨p, n, es, rfl, hp, hes⟩ := hg
        have vp := v.all p (by simp)
        have vn := v.all n (by simp)
        have ip := v.ix 0 p M rfl
        have iN := v.ix 1 n M rfl
        obtain ⟨e1, _, v2⟩ := vp.view hj hp
        have esl : es.length ≤ 16000 := by
          have a := sX_mem (show p ∈ [p, n] by simp)
          rw [← v.w] at a
          have b := sX_len es
          rw [← v2.w] at b
          omega
        have epa : paB k x = (es.all nnB && nzB n) := by
          unfold paB
          rw [hx]
          show (pwB k p && nzB n) = _
          unfold pwB
          rw [hp]
          show (decide (es.length = k) && es.all nnB && nzB n) = _
          rw [decide_eq_true hes, Bool.true_and]
        rw [if_neg (by unfold hdB; simp [hp, hes]), go_next, go_seq, go_ifS]
        simp only [go_bin, go_un, go_var, go_c, go_test, go_andT, go_orT, go_notT, go_yes, go_andV, go_if, go_nil, go_cons, go_tup, go_lst, go_lstC, go_cb, go_call, go_callW, go_meth, go_noPart, go_part, go_sl, go_get, go_retN, go_lc, go_dc, go_iter, go_enum, go_rng, go_rng1, go_rng2, go_rng3, go_disp, go_pnil, go_pcons, go_bdT, go_bdF, go_ok, go_nx, go_rt, go_addI, go_addS, go_addT, go_addL, go_subI, go_mulI, go_mulL, go_modI, go_fdivI, go_powI, go_ltI, go_leI, go_gtI, go_geI, go_eqI, go_eqS, go_neI, go_neS, go_ixF, go_ixT, go_ixS, go_ixD, go_slT, go_slF, go_slR, go_slS, go_revF, go_revCF, go_revAT, go_revAL, List.getElem?_cons_zero, List.getElem?_cons_succ, List.set_cons_zero, List.set_cons_succ, List.length_cons, List.length_nil, D.int.injEq, D.bl.injEq, D.str.injEq, Option.some.injEq, exists_eq_left', go_listF, go_listT, go_tupleF, go_tupleT, go_lenF, go_lenT, go_lenS, go_isiS, go_isiI, go_intI, go_intB, go_maxI, it_lst, it_tupD, it_strD, en_lst, en_tup, fr_gN, wipeD, go_inTab, go_notInTab, go_tab, go_lc2, go_par2, go_par3, go_asg, go_isB, go_tell, go_kget, go_notB, go_slStep, go_slStepT, go_dictZip, go_setEq, ip, go_ok, v2.it]
        have ee : es = es.map id := by rw [List.map_id]
        rw [ee]
        refine cp_filter (p := fun y => !nnB y) (h := id) trivial es [] (by rw [List.length_nil]; omega) (fun y hy => ⟨_, rfl, fun K hK => ?_, fun K hK => ?_⟩) ?_
        · have vy := v2.all y hy
          refine go_orT' (c1 := !whB y) (c2 := !nnB y) (fun K hK => ?_) (fun hw K hK => ?_) ?_
          · simp only [go_bin, go_un, go_var, go_c, go_test, go_andT, go_orT, go_notT, go_yes, go_andV, go_if, go_nil, go_cons, go_tup, go_lst, go_lstC, go_cb, go_call, go_callW, go_meth, go_noPart, go_part, go_sl, go_get, go_retN, go_lc, go_dc, go_iter, go_enum, go_rng, go_rng1, go_rng2, go_rng3, go_disp, go_pnil, go_pcons, go_bdT, go_bdF, go_ok, go_nx, go_rt, go_addI, go_addS, go_addT, go_addL, go_subI, go_mulI, go_mulL, go_modI, go_fdivI, go_powI, go_ltI, go_leI, go_gtI, go_geI, go_eqI, go_eqS, go_neI, go_neS, go_ixF, go_ixT, go_ixS, go_ixD, go_slT, go_slF, go_slR, go_slS, go_revF, go_revCF, go_revAT, go_revAL, List.getElem?_cons_zero, List.getElem?_cons_succ, List.set_cons_zero, List.set_cons_succ, List.length_cons, List.length_nil, D.int.injEq, D.bl.injEq, D.str.injEq, Option.some.injEq, exists_eq_left', go_listF, go_listT, go_tupleF, go_tupleT, go_lenF, go_lenT, go_lenS, go_isiS, go_isiI, go_intI, go_intB, go_maxI, it_lst, it_tupD, it_strD, en_lst, en_tup, fr_gN, wipeD, go_inTab, go_notInTab, go_tab, go_lc2, go_par2, go_par3, go_asg, go_isB, go_tell, go_kget, go_notB, go_slStep, go_slStepT, go_dictZip, go_setEq, List.set_cons_zero, List.set_cons_succ, true_and, id]
            refine law_whole_ok vy ?_
            exact ⟨_, rfl, hK⟩
          · cases y with
            | int i =>
              simp only [go_bin, go_un, go_var, go_c, go_test, go_andT, go_orT, go_notT, go_yes, go_andV, go_if, go_nil, go_cons, go_tup, go_lst, go_lstC, go_cb, go_call, go_callW, go_meth, go_noPart, go_part, go_sl, go_get, go_retN, go_lc, go_dc, go_iter, go_enum, go_rng, go_rng1, go_rng2, go_rng3, go_disp, go_pnil, go_pcons, go_bdT, go_bdF, go_ok, go_nx, go_rt, go_addI, go_addS, go_addT, go_addL, go_subI, go_mulI, go_mulL, go_modI, go_fdivI, go_powI, go_ltI, go_leI, go_gtI, go_geI, go_eqI, go_eqS, go_neI, go_neS, go_ixF, go_ixT, go_ixS, go_ixD, go_slT, go_slF, go_slR, go_slS, go_revF, go_revCF, go_revAT, go_revAL, List.getElem?_cons_zero, List.getElem?_cons_succ, List.set_cons_zero, List.set_cons_succ, List.length_cons, List.length_nil, D.int.injEq, D.bl.injEq, D.str.injEq, Option.some.injEq, exists_eq_left', go_listF, go_listT, go_tupleF, go_tupleT, go_lenF, go_lenT, go_lenS, go_isiS, go_isiI, go_intI, go_intB, go_maxI, it_lst, it_tupD, it_strD, en_lst, en_tup, fr_gN, wipeD, go_inTab, go_notInTab, go_tab, go_lc2, go_par2, go_par3, go_asg, go_isB, go_tell, go_kget, go_notB, go_slStep, go_slStepT, go_dictZip, go_setEq, List.set_cons_zero, List.set_cons_succ, id, go_ltTI]
              have : decide (i < 0) = !nnB (.int i) := by
                show decide (i < 0) = !decide (0 ≤ i)
                rw [← decide_not]
                exact decide_eq_decide.mpr (by omega)
              rw [this]
              exact hK
            | _ => cases hw
          · have : (!whB y || !nnB y) = !nnB y := by cases y <;> first | rfl | (show (!true || _) = _; rfl)
            rw [this]
            exact hK
        · simp only [go_bin, go_un, go_var, go_c, go_test, go_andT, go_orT, go_notT, go_yes, go_andV, go_if, go_nil, go_cons, go_tup, go_lst, go_lstC, go_cb, go_call, go_callW, go_meth, go_noPart, go_part, go_sl, go_get, go_retN, go_lc, go_dc, go_iter, go_enum, go_rng, go_rng1, go_rng2, go_rng3, go_disp, go_pnil, go_pcons, go_bdT, go_bdF, go_ok, go_nx, go_rt, go_addI, go_addS, go_addT, go_addL, go_subI, go_mulI, go_mulL, go_modI, go_fdivI, go_powI, go_ltI, go_leI, go_gtI, go_geI, go_eqI, go_eqS, go_neI, go_neS, go_ixF, go_ixT, go_ixS, go_ixD, go_slT, go_slF, go_slR, go_slS, go_revF, go_revCF, go_revAT, go_revAL, List.getElem?_cons_zero, List.getElem?_cons_succ, List.set_cons_zero, List.set_cons_succ, List.length_cons, List.length_nil, D.int.injEq, D.bl.injEq, D.str.injEq, Option.some.injEq, exists_eq_left', go_listF, go_listT, go_tupleF, go_tupleT, go_lenF, go_lenT, go_lenS, go_isiS, go_isiI, go_intI, go_intB, go_maxI, it_lst, it_tupD, it_strD, en_lst, en_tup, fr_gN, wipeD, go_inTab, go_notInTab, go_tab, go_lc2, go_par2, go_par3, go_asg, go_isB, go_tell, go_kget, go_notB, go_slStep, go_slStepT, go_dictZip, go_setEq, List.set_cons_zero, List.set_cons_succ, id]
          exact hK
        · rw [List.nil_append, List.map_id]
          refine ⟨by decide, ?_⟩
          show Go (opNeEL (.lst (es.filter fun y => !nnB y)) (.lst []) M) _
          rw [go_neEL]
          refine ⟨_, rfl, ?_⟩
          cases hall : es.all nnB with
          | false =>
            have : (!(es.filter fun y => !nnB y).isEmpty) = true := by
              rw [Bool.not_eq_true', ← Bool.not_eq_true, List.isEmpty_iff, List.filter_eq_nil_iff]
              intro hh
              have : es.all nnB = true := List.all_eq_true.mpr fun y hy => by
                have := hh y hy
                simpa using this
              rw [this] at hall
              cases hall
            rw [this, if_pos rfl]
            exact r0 [some (.int (k : Nat)), some d, some x, none, none] (by rw [epa, hall, Bool.false_and])
          | true =>
            have : (!(es.filter fun y => !nnB y).isEmpty) = false := by
              rw [Bool.not_eq_false', List.isEmpty_iff, List.filter_eq_nil_iff]
              intro y hy
              rw [List.all_eq_true.mp hall y hy]
              decide
            rw [this, if_neg (by decide), go_next, go_ifS]
            rw [hall, Bool.true_and] at epa
            refine go_orT' (c1 := !whB n) (c2 := !nzB n) (fun K hK => ?_) (fun hw K hK => ?_) ?_
            · simp only [go_bin, go_un, go_var, go_c, go_test, go_andT, go_orT, go_notT, go_yes, go_andV, go_if, go_nil, go_cons, go_tup, go_lst, go_lstC, go_cb, go_call, go_callW, go_meth, go_noPart, go_part, go_sl, go_get, go_retN, go_lc, go_dc, go_iter, go_enum, go_rng, go_rng1, go_rng2, go_rng3, go_disp, go_pnil, go_pcons, go_bdT, go_bdF, go_ok, go_nx, go_rt, go_addI, go_addS, go_addT, go_addL, go_subI, go_mulI, go_mulL, go_modI, go_fdivI, go_powI, go_ltI, go_leI, go_gtI, go_geI, go_eqI, go_eqS, go_neI, go_neS, go_ixF, go_ixT, go_ixS, go_ixD, go_slT, go_slF, go_slR, go_slS, go_revF, go_revCF, go_revAT, go_revAL, List.getElem?_cons_zero, List.getElem?_cons_succ, List.set_cons_zero, List.set_cons_succ, List.length_cons, List.length_nil, D.int.injEq, D.bl.injEq, D.str.injEq, Option.some.injEq, exists_eq_left', go_listF, go_listT, go_tupleF, go_tupleT, go_lenF, go_lenT, go_lenS, go_isiS, go_isiI, go_intI, go_intB, go_maxI, it_lst, it_tupD, it_strD, en_lst, en_tup, fr_gN, wipeD, go_inTab, go_notInTab, go_tab, go_lc2, go_par2, go_par3, go_asg, go_isB, go_tell, go_kget, go_notB, go_slStep, go_slStepT, go_dictZip, go_setEq, iN, go_ok, true_and]
              refine law_whole_ok vn ?_
              exact ⟨_, rfl, hK⟩
            · cases n with
              | int i =>
                simp only [go_bin, go_un, go_var, go_c, go_test, go_andT, go_orT, go_notT, go_yes, go_andV, go_if, go_nil, go_cons, go_tup, go_lst, go_lstC, go_cb, go_call, go_callW, go_meth, go_noPart, go_part, go_sl, go_get, go_retN, go_lc, go_dc, go_iter, go_enum, go_rng, go_rng1, go_rng2, go_rng3, go_disp, go_pnil, go_pcons, go_bdT, go_bdF, go_ok, go_nx, go_rt, go_addI, go_addS, go_addT, go_addL, go_subI, go_mulI, go_mulL, go_modI, go_fdivI, go_powI, go_ltI, go_leI, go_gtI, go_geI, go_eqI, go_eqS, go_neI, go_neS, go_ixF, go_ixT, go_ixS, go_ixD, go_slT, go_slF, go_slR, go_slS, go_revF, go_revCF, go_revAT, go_revAL, List.getElem?_cons_zero, List.getElem?_cons_succ, List.set_cons_zero, List.set_cons_succ, List.length_cons, List.length_nil, D.int.injEq, D.bl.injEq, D.str.injEq, Option.some.injEq, exists_eq_left', go_listF, go_listT, go_tupleF, go_tupleT, go_lenF, go_lenT, go_lenS, go_isiS, go_isiI, go_intI, go_intB, go_maxI, it_lst, it_tupD, it_strD, en_lst, en_tup, fr_gN, wipeD, go_inTab, go_notInTab, go_tab, go_lc2, go_par2, go_par3, go_asg, go_isB, go_tell, go_kget, go_notB, go_slStep, go_slStepT, go_dictZip, go_setEq, iN, go_ok]
                have : decide (i = 0) = !nzB (.int i) := by
                  show decide (i = 0) = !decide (i ≠ 0)
                  rw [decide_not, Bool.not_not]
                rw [this]
                exact hK
              | _ => cases hw
            · have : (!whB n || !nzB n) = !nzB n := by cases n <;> first | rfl | (show (!true || _) = _; rfl)
              rw [this]
              cases hnz : nzB n with
              | false =>
                rw [Bool.not_false, if_pos rfl]
                exact r0 [some (.int (k : Nat)), some d, some x, none, none] (by rw [epa, hnz])
              | true =>
                rw [Bool.not_true, if_neg (by decide), go_next]
                exact yes (by rw [epa, hnz])
      · have hn : paB k x = false := by
          cases h3 : paB k x with
          | false => rfl
          | true =>
            exfalso
            unfold paB at h3
            rw [hx] at h3
            split at h3
            · next p n e =>
              cases e
              rw [Bool.and_eq_true] at h3
              have h4 := h3.1
              unfold pwB at h4
              split at h4
              · next es e2 =>
                rw [Bool.and_eq_true, decide_eq_true_eq] at h4
                exact hg ⟨p, n, es, rfl, e2, h4.1⟩
              · cases h4
            · cases h3
        rw [if_pos]
        · exact r0 [some (.int (k : Nat)), some d, some x, none, none] hn
        · rw [Bool.not_eq_true', Bool.and_eq_false_iff]
          by_cases h2 : ds.length = 2
          · right
            match ds, h2 with
            | [p, n], _ =>
              cases hp : tupV p with
              | none => simp [hdB, hp]
              | some es =>
                have : es.length ≠ k := fun z => hg ⟨p, n, es, rfl, hp, z⟩
                simp [hdB, hp, this]
          · left
            exact decide_eq_false h2
theorem each_ok {S : Ly.Env → Mem → Prop} {R : D → Mem → Prop} (hj : j ≤ 1000) : ∀ (rem : List D), (∀ x ∈ rem, Pq j e x ∧ wX x ≤ 16000) → ∀ u : Option D, (rem.all (paB k) = true → ∀ u, S [some (.int (k : Nat)), some d, u, none, none] M) → (rem.all (paB k) = false → R (.bl false) M) →
    GoS (loopS (gN 2) bodyS (fun _ => True) rem [some (.int (k : Nat)), some d, u, none, none] M) S R
  | [], _, u, yes, _ => lp_nil trivial (yes rfl u)
  | x :: rem, h, u, yes, no => by
    refine lp_cons (e1 := [some (.int (k : Nat)), some d, some x, none, none]) trivial rfl ?_
    refine part_ok (h x (by simp)).1 hj (h x (by simp)).2 (fun hx => ?_) fun hx => no (by rw [List.all_cons, hx, Bool.false_and])
    exact each_ok hj rem (fun y hy => h y (List.mem_cons_of_mem _ hy)) (some x) (fun hr u => yes (by rw [List.all_cons, hx, Bool.true_and]; exact hr) u) fun hr => no (by rw [List.all_cons, hx, Bool.true_and]; exact hr)
theorem law_is_sum_ok (h : Pq j e d) (hj : j ≤ 1000) (hw : wX d ≤ 16000) (q : Q (.bl (suB k d)) M) : Go (f__law_is_sum [.int (k : Nat), d] M) Q := by
  unfold f__law_is_sum
  rw [go_callD]
  show GoS (m__law_is_sum [some (.int (k : Nat)), some d, none, none, none] M) _ _
  have fin : ∀ b, Q (.bl b) M → Go (Ly.finish M (.bl b) M) Q := fun b q => go_fin_same rfl q
  unfold m__law_is_sum
  rw [go_seq, go_ifS]
  cases ht : tupV d with
  | none =>
    rw [h.noTup ht] at q
    simp only [go_bin, go_un, go_var, go_c, go_test, go_andT, go_orT, go_notT, go_yes, go_andV, go_if, go_nil, go_cons, go_tup, go_lst, go_lstC, go_cb, go_call, go_callW, go_meth, go_noPart, go_part, go_sl, go_get, go_retN, go_lc, go_dc, go_iter, go_enum, go_rng, go_rng1, go_rng2, go_rng3, go_disp, go_pnil, go_pcons, go_bdT, go_bdF, go_ok, go_nx, go_rt, go_addI, go_addS, go_addT, go_addL, go_subI, go_mulI, go_mulL, go_modI, go_fdivI, go_powI, go_ltI, go_leI, go_gtI, go_geI, go_eqI, go_eqS, go_neI, go_neS, go_ixF, go_ixT, go_ixS, go_ixD, go_slT, go_slF, go_slR, go_slS, go_revF, go_revCF, go_revAT, go_revAL, List.getElem?_cons_zero, List.getElem?_cons_succ, List.set_cons_zero, List.set_cons_succ, List.length_cons, List.length_nil, D.int.injEq, D.bl.injEq, D.str.injEq, Option.some.injEq, exists_eq_left', go_listF, go_listT, go_tupleF, go_tupleT, go_lenF, go_lenT, go_lenS, go_isiS, go_isiI, go_intI, go_intB, go_maxI, it_lst, it_tupD, it_strD, en_lst, en_tup, fr_gN, wipeD, go_inTab, go_notInTab, go_tab, go_lc2, go_par2, go_par3, go_asg, go_isB, go_tell, go_kget, go_notB, go_slStep, go_slStepT, go_dictZip, go_setEq, isi_tupQ h, ht, go_ret]
    exact fin _ q
  | some ds =>
    obtain ⟨e0, rfl, v⟩ := h.view hj ht
    have hl : ds.length ≤ 16000 := Nat.le_trans (sX_len ds) (v.w ▸ hw)
    have sub : ∀ x ∈ ds, wX x ≤ 16000 := fun x hx => by have := sX_mem hx; rw [← v.w] at this; omega
    have esu : suB k d = (ds.all (paB k) && riB ds) := by unfold suB; rw [ht]
    simp only [go_bin, go_un, go_var, go_c, go_test, go_andT, go_orT, go_notT, go_yes, go_andV, go_if, go_nil, go_cons, go_tup, go_lst, go_lstC, go_cb, go_call, go_callW, go_meth, go_noPart, go_part, go_sl, go_get, go_retN, go_lc, go_dc, go_iter, go_enum, go_rng, go_rng1, go_rng2, go_rng3, go_disp, go_pnil, go_pcons, go_bdT, go_bdF, go_ok, go_nx, go_rt, go_addI, go_addS, go_addT, go_addL, go_subI, go_mulI, go_mulL, go_modI, go_fdivI, go_powI, go_ltI, go_leI, go_gtI, go_geI, go_eqI, go_eqS, go_neI, go_neS, go_ixF, go_ixT, go_ixS, go_ixD, go_slT, go_slF, go_slR, go_slS, go_revF, go_revCF, go_revAT, go_revAL, List.getElem?_cons_zero, List.getElem?_cons_succ, List.set_cons_zero, List.set_cons_succ, List.length_cons, List.length_nil, D.int.injEq, D.bl.injEq, D.str.injEq, Option.some.injEq, exists_eq_left', go_listF, go_listT, go_tupleF, go_tupleT, go_lenF, go_lenT, go_lenS, go_isiS, go_isiI, go_intI, go_intB, go_maxI, it_lst, it_tupD, it_strD, en_lst, en_tup, fr_gN, wipeD, go_inTab, go_notInTab, go_tab, go_lc2, go_par2, go_par3, go_asg, go_isB, go_tell, go_kget, go_notB, go_slStep, go_slStepT, go_dictZip, go_setEq, isi_tupQ h, ht, Option.isSome_some]
    simp only [Bool.not_true, Bool.false_eq_true, if_false]
    rw [go_next, go_seq, go_for]
    simp only [go_bin, go_un, go_var, go_c, go_test, go_andT, go_orT, go_notT, go_yes, go_andV, go_if, go_nil, go_cons, go_tup, go_lst, go_lstC, go_cb, go_call, go_callW, go_meth, go_noPart, go_part, go_sl, go_get, go_retN, go_lc, go_dc, go_iter, go_enum, go_rng, go_rng1, go_rng2, go_rng3, go_disp, go_pnil, go_pcons, go_bdT, go_bdF, go_ok, go_nx, go_rt, go_addI, go_addS, go_addT, go_addL, go_subI, go_mulI, go_mulL, go_modI, go_fdivI, go_powI, go_ltI, go_leI, go_gtI, go_geI, go_eqI, go_eqS, go_neI, go_neS, go_ixF, go_ixT, go_ixS, go_ixD, go_slT, go_slF, go_slR, go_slS, go_revF, go_revCF, go_revAT, go_revAL, List.getElem?_cons_zero, List.getElem?_cons_succ, List.set_cons_zero, List.set_cons_succ, List.length_cons, List.length_nil, D.int.injEq, D.bl.injEq, D.str.injEq, Option.some.injEq, exists_eq_left', go_listF, go_listT, go_tupleF, go_tupleT, go_lenF, go_lenT, go_lenS, go_isiS, go_isiI, go_intI, go_intB, go_maxI, it_lst, it_tupD, it_strD, en_lst, en_tup, fr_gN, wipeD, go_inTab, go_notInTab, go_tab, go_lc2, go_par2, go_par3, go_asg, go_isB, go_tell, go_kget, go_notB, go_slStep, go_slStepT, go_dictZip, go_setEq, v.it]
    show GoS (loopS (gN 2) bodyS (fun _ => True) ds [some (.int (k : Nat)), some d, none, none, none] M) _ _
    refine each_ok hj ds (fun x hx => ⟨v.all x hx, sub x hx⟩) none (fun hall u => ?_) fun hall => ?_
    · rw [esu, hall, Bool.true_and] at q
      have h3 := List.all_eq_true.mp hall
      obtain ⟨d2, s1, s2⟩ := v.sl M
      simp only [go_bin, go_un, go_var, go_c, go_test, go_andT, go_orT, go_notT, go_yes, go_andV, go_if, go_nil, go_cons, go_tup, go_lst, go_lstC, go_cb, go_call, go_callW, go_meth, go_noPart, go_part, go_sl, go_get, go_retN, go_lc, go_dc, go_iter, go_enum, go_rng, go_rng1, go_rng2, go_rng3, go_disp, go_pnil, go_pcons, go_bdT, go_bdF, go_ok, go_nx, go_rt, go_addI, go_addS, go_addT, go_addL, go_subI, go_mulI, go_mulL, go_modI, go_fdivI, go_powI, go_ltI, go_leI, go_gtI, go_geI, go_eqI, go_eqS, go_neI, go_neS, go_ixF, go_ixT, go_ixS, go_ixD, go_slT, go_slF, go_slR, go_slS, go_revF, go_revCF, go_revAT, go_revAL, List.getElem?_cons_zero, List.getElem?_cons_succ, List.set_cons_zero, List.set_cons_succ, List.length_cons, List.length_nil, D.int.injEq, D.bl.injEq, D.str.injEq, Option.some.injEq, exists_eq_left', go_listF, go_listT, go_tupleF, go_tupleT, go_lenF, go_lenT, go_lenS, go_isiS, go_isiI, go_intI, go_intB, go_maxI, it_lst, it_tupD, it_strD, en_lst, en_tup, fr_gN, wipeD, go_inTab, go_notInTab, go_tab, go_lc2, go_par2, go_par3, go_asg, go_isB, go_tell, go_kget, go_notB, go_slStep, go_slStepT, go_dictZip, go_setEq, go_ret, s1, go_ok]
      rw [go_zipP (v.it M) s2]
      dsimp only
      unfold paired
      refine cp_filter (f := fun p : D × D => D.tup [p.1, p.2]) (p := fun p : D × D => !ltInts (rowD p.1) (rowD p.2)) (h := fun _ => D.int 1) ⟨trivial, trivial⟩ (ds.zip (ds.drop 1)) [] (by rw [List.length_nil, List.length_zip]; omega) (fun p hp => ⟨_, rfl, fun K hK => ?_, fun K hK => ?_⟩) ?_
      · obtain ⟨i1, i2⟩ := List.of_mem_zip (a := p.1) (b := p.2) hp
        have i2 : p.2 ∈ ds := List.mem_of_mem_drop i2
        obtain ⟨p1, n1, es1, xs1, a1, a2, a3, a4⟩ := paB_row (h3 _ i1)
        obtain ⟨p2, n2, es2, xs2, b1, b2, b3, b4⟩ := paB_row (h3 _ i2)
        obtain ⟨_, _, v1⟩ := (v.all _ i1).view hj a1
        obtain ⟨_, _, v2⟩ := (v.all _ i2).view hj b1
        simp only [go_bin, go_un, go_var, go_c, go_test, go_andT, go_orT, go_notT, go_yes, go_andV, go_if, go_nil, go_cons, go_tup, go_lst, go_lstC, go_cb, go_call, go_callW, go_meth, go_noPart, go_part, go_sl, go_get, go_retN, go_lc, go_dc, go_iter, go_enum, go_rng, go_rng1, go_rng2, go_rng3, go_disp, go_pnil, go_pcons, go_bdT, go_bdF, go_ok, go_nx, go_rt, go_addI, go_addS, go_addT, go_addL, go_subI, go_mulI, go_mulL, go_modI, go_fdivI, go_powI, go_ltI, go_leI, go_gtI, go_geI, go_eqI, go_eqS, go_neI, go_neS, go_ixF, go_ixT, go_ixS, go_ixD, go_slT, go_slF, go_slR, go_slS, go_revF, go_revCF, go_revAT, go_revAL, List.getElem?_cons_zero, List.getElem?_cons_succ, List.set_cons_zero, List.set_cons_succ, List.length_cons, List.length_nil, D.int.injEq, D.bl.injEq, D.str.injEq, Option.some.injEq, exists_eq_left', go_listF, go_listT, go_tupleF, go_tupleT, go_lenF, go_lenT, go_lenS, go_isiS, go_isiI, go_intI, go_intB, go_maxI, it_lst, it_tupD, it_strD, en_lst, en_tup, fr_gN, wipeD, go_inTab, go_notInTab, go_tab, go_lc2, go_par2, go_par3, go_asg, go_isB, go_tell, go_kget, go_notB, go_slStep, go_slStepT, go_dictZip, go_setEq, List.set_cons_zero, List.set_cons_succ, v1.ix 0 p1 M rfl, v2.ix 0 p2 M rfl, go_ok]
        rw [go_ltT a2 b2 a3 b3]
        refine ⟨_, rfl, ?_⟩
        rw [a4, b4] at hK
        exact hK
      · simp only [go_bin, go_un, go_var, go_c, go_test, go_andT, go_orT, go_notT, go_yes, go_andV, go_if, go_nil, go_cons, go_tup, go_lst, go_lstC, go_cb, go_call, go_callW, go_meth, go_noPart, go_part, go_sl, go_get, go_retN, go_lc, go_dc, go_iter, go_enum, go_rng, go_rng1, go_rng2, go_rng3, go_disp, go_pnil, go_pcons, go_bdT, go_bdF, go_ok, go_nx, go_rt, go_addI, go_addS, go_addT, go_addL, go_subI, go_mulI, go_mulL, go_modI, go_fdivI, go_powI, go_ltI, go_leI, go_gtI, go_geI, go_eqI, go_eqS, go_neI, go_neS, go_ixF, go_ixT, go_ixS, go_ixD, go_slT, go_slF, go_slR, go_slS, go_revF, go_revCF, go_revAT, go_revAL, List.getElem?_cons_zero, List.getElem?_cons_succ, List.set_cons_zero, List.set_cons_succ, List.length_cons, List.length_nil, D.int.injEq, D.bl.injEq, D.str.injEq, Option.some.injEq, exists_eq_left', go_listF, go_listT, go_tupleF, go_tupleT, go_lenF, go_lenT, go_lenS, go_isiS, go_isiI, go_intI, go_intB, go_maxI, it_lst, it_tupD, it_strD, en_lst, en_tup, fr_gN, wipeD, go_inTab, go_notInTab, go_tab, go_lc2, go_par2, go_par3, go_asg, go_isB, go_tell, go_kget, go_notB, go_slStep, go_slStepT, go_dictZip, go_setEq]
        exact hK
      · rw [List.nil_append]
        rw [go_eqL (fun x hx => by obtain ⟨_, _, rfl⟩ := List.mem_map.mp hx; rfl)]
        refine ⟨by decide, fin _ ?_⟩
        have : (((ds.zip (ds.drop 1)).filter fun p : D × D => !ltInts (rowD p.1) (rowD p.2)).map fun _ => D.int 1).isEmpty = riB ds := by
          unfold riB
          rw [List.isEmpty_map]
          cases hb : (ds.zip (ds.drop 1)).all fun p => ltInts (rowD p.1) (rowD p.2) with
          | true =>
            rw [List.isEmpty_iff, List.filter_eq_nil_iff]
            intro p hp
            rw [List.all_eq_true.mp hb p hp]
            decide
          | false =>
            rw [← Bool.not_eq_true, List.isEmpty_iff, List.filter_eq_nil_iff]
            intro hh
            have : (ds.zip (ds.drop 1)).all (fun p => ltInts (rowD p.1) (rowD p.2)) = true := List.all_eq_true.mpr fun p hp => by
              have := hh p hp
              simpa using this
            rw [this] at hb
            cases hb
        rw [this]
        exact q
    · rw [esu, hall, Bool.false_and] at q
      exact fin _ q
end
end K28
namespace K28
open PySem PySem.Spec PyProof.Rows L2 Ly Su
open Sk (wX sX sX_mem sX_len sX_app sX_cut sX_rev)
mutual
theorem pq_low {j k : Nat} : ∀ {e : Nat} {d : D}, Pq j e d → D.low k d = true
  | _, _, .non => rfl
  | _, _, .bl => rfl
  | _, _, .int _ => rfl
  | _, _, .str _ => rfl
  | _, .tup ds, .tup h => pq_lowL h
  | _, .ftu ds, .ftu h => pq_lowL h
  | _, .lst ds, .lst h => pq_lowL h
  | _, _, .dic => rfl
theorem pq_lowL {j k e : Nat} : ∀ {ds : List D}, (∀ d ∈ ds, Pq j e d) → lowL k ds = true
  | [], _ => rfl
  | d :: ds, h => by
    show (D.low k d && lowL k ds) = true
    rw [pq_low (h d (by simp)), pq_lowL fun x hx => h x (List.mem_cons_of_mem _ hx)]
    rfl
end
section
variable {b j e n : Nat} {T M : Mem} {Q : D → Mem → Prop} {d : D}
theorem cpow39 : CPow 10 39 := by unfold CPow; omega
theorem odd_ok (h : DzIs b T M) (hb : b ≤ 900000) (hd : Pq j e d) (hj : j ≤ 1000) (hw : wX d ≤ n) (q : ∀ d' M', Pq j (e + 2) d' → wX d' ≤ n + 200 → DzIs (b + 1) T M' → Q d' M') : Go (f__law_odd [.ref 1, d] M) Q := by
  unfold f__law_odd
  rw [go_callD]
  show GoS (m__law_odd [some (.ref 1), some d, none] M) _ _
  unfold m__law_odd
  rw [e_draw, go_seq, go_set]
  have dn : ∀ (env : Ly.Env) (M : Mem) (Q' : D → Mem → Prop), Go (mDNew false env M) Q' = Q' (.dic []) M := fun _ _ _ => rfl
  simp only [go_bin, go_un, go_var, go_c, go_test, go_andT, go_orT, go_notT, go_yes, go_andV, go_if, go_nil, go_cons, go_tup, go_lst, go_lstC, go_cb, go_call, go_callW, go_meth, go_noPart, go_part, go_sl, go_get, go_retN, go_lc, go_dc, go_iter, go_enum, go_rng, go_rng1, go_rng2, go_rng3, go_disp, go_pnil, go_pcons, go_bdT, go_bdF, go_ok, go_nx, go_rt, go_addI, go_addS, go_addT, go_addL, go_subI, go_mulI, go_mulL, go_modI, go_fdivI, go_powI, go_ltI, go_leI, go_gtI, go_geI, go_eqI, go_eqS, go_neI, go_neS, go_ixF, go_ixT, go_ixS, go_ixD, go_slT, go_slF, go_slR, go_slS, go_revF, go_revCF, go_revAT, go_revAL, List.getElem?_cons_zero, List.getElem?_cons_succ, List.set_cons_zero, List.set_cons_succ, List.length_cons, List.length_nil, D.int.injEq, D.bl.injEq, D.str.injEq, Option.some.injEq, exists_eq_left', go_listF, go_listT, go_tupleF, go_tupleT, go_lenF, go_lenT, go_lenS, go_isiS, go_isiI, go_intI, go_intB, go_maxI, it_lst, it_tupD, it_strD, en_lst, en_tup, fr_gN, wipeD, go_inTab, go_notInTab, go_tab, go_lc2, go_par2, go_par3, go_asg, go_isB, go_tell, go_kget, go_notB, go_slStep, go_slStepT, go_dictZip, go_setEq, dn, List.set_cons_zero, List.set_cons_succ]
  refine ⟨cpow39, by decide, by decide, by decide, by decide, by decide, by decide, by decide, by decide, ?_⟩
  rw [go_ret]
  simp only [go_bin, go_un, go_var, go_c, go_test, go_andT, go_orT, go_notT, go_yes, go_andV, go_if, go_nil, go_cons, go_tup, go_lst, go_lstC, go_cb, go_call, go_callW, go_meth, go_noPart, go_part, go_sl, go_get, go_retN, go_lc, go_dc, go_iter, go_enum, go_rng, go_rng1, go_rng2, go_rng3, go_disp, go_pnil, go_pcons, go_bdT, go_bdF, go_ok, go_nx, go_rt, go_addI, go_addS, go_addT, go_addL, go_subI, go_mulI, go_mulL, go_modI, go_fdivI, go_powI, go_ltI, go_leI, go_gtI, go_geI, go_eqI, go_eqS, go_neI, go_neS, go_ixF, go_ixT, go_ixS, go_ixD, go_slT, go_slF, go_slR, go_slS, go_revF, go_revCF, go_revAT, go_revAL, List.getElem?_cons_zero, List.getElem?_cons_succ, List.set_cons_zero, List.set_cons_succ, List.length_cons, List.length_nil, D.int.injEq, D.bl.injEq, D.str.injEq, Option.some.injEq, exists_eq_left', go_listF, go_listT, go_tupleF, go_tupleT, go_lenF, go_lenT, go_lenS, go_isiS, go_isiI, go_intI, go_intB, go_maxI, it_lst, it_tupD, it_strD, en_lst, en_tup, fr_gN, wipeD, go_inTab, go_notInTab, go_tab, go_lc2, go_par2, go_par3, go_asg, go_isB, go_tell, go_kget, go_notB, go_slStep, go_slStepT, go_dictZip, go_setEq]
  refine ⟨trivial, draw_ok h (by omega) (by decide) (by decide) fun r M1 r0 r1 h1 => ?_⟩
  have fin : ∀ d', Pq j (e + 2) d' → wX d' ≤ n + 200 → Go (Ly.finish M d' M1) Q := fun d' p w => go_fin_dz0 h h1 (frz_low (pq_low p)) fun M2 h2 => q d' M2 p w h2
  have p39 : (10 : Int) ^ (39 : Int).toNat = 10 ^ 39 := by decide
  rw [p39]
  have tt : ∀ ds : List D, (∀ x ∈ ds, Pq j (e + 1) x) → Pq j (e + 2) (.tup ds) := fun ds h => .tup h
  have o1 : ∀ x ∈ [d], Pq j (e + 1) x := fun x hx => by
    rw [List.mem_singleton.mp hx]
    exact hd.mono (Nat.le_refl _) (by omega)
  have n1 : ∀ {e : Nat} {i : Int}, i.natAbs ≤ 5 → Pq j e (.int i) := fun h => .int (by omega)
  simp only [go_bin, go_un, go_var, go_c, go_test, go_andT, go_orT, go_notT, go_yes, go_andV, go_if, go_nil, go_cons, go_tup, go_lst, go_lstC, go_cb, go_call, go_callW, go_meth, go_noPart, go_part, go_sl, go_get, go_retN, go_lc, go_dc, go_iter, go_enum, go_rng, go_rng1, go_rng2, go_rng3, go_disp, go_pnil, go_pcons, go_bdT, go_bdF, go_ok, go_nx, go_rt, go_addI, go_addS, go_addT, go_addL, go_subI, go_mulI, go_mulL, go_modI, go_fdivI, go_powI, go_ltI, go_leI, go_gtI, go_geI, go_eqI, go_eqS, go_neI, go_neS, go_ixF, go_ixT, go_ixS, go_ixD, go_slT, go_slF, go_slR, go_slS, go_revF, go_revCF, go_revAT, go_revAL, List.getElem?_cons_zero, List.getElem?_cons_succ, List.set_cons_zero, List.set_cons_succ, List.length_cons, List.length_nil, D.int.injEq, D.bl.injEq, D.str.injEq, Option.some.injEq, exists_eq_left', go_listF, go_listT, go_tupleF, go_tupleT, go_lenF, go_lenT, go_lenS, go_isiS, go_isiI, go_intI, go_intB, go_maxI, it_lst, it_tupD, it_strD, en_lst, en_tup, fr_gN, wipeD, go_inTab, go_notInTab, go_tab, go_lc2, go_par2, go_par3, go_asg, go_isB, go_tell, go_kget, go_notB, go_slStep, go_slStepT, go_dictZip, go_setEq]
  have rr : r = 0 ∨ r = 1 ∨ r = 2 ∨ r = 3 ∨ r = 4 ∨ r = 5 ∨ r = 6 ∨ r = 7 ∨ r = 8 ∨ r = 9 ∨ r = 10 ∨ r = 11 ∨ r = 12 ∨ r = 13 ∨ r = 14 ∨ r = 15 := by omega
  rcases rr with rfl | rfl | rfl | rfl | rfl | rfl | rfl | rfl | rfl | rfl | rfl | rfl | rfl | rfl | rfl | rfl
  · exact ⟨_, rfl, fin _ .non (Nat.le_trans (show _ ≤ 200 by decide) (by omega))⟩
  · exact ⟨_, rfl, fin _ .bl (Nat.le_trans (show _ ≤ 200 by decide) (by omega))⟩
  · exact ⟨_, rfl, fin _ .bl (Nat.le_trans (show _ ≤ 200 by decide) (by omega))⟩
  · exact ⟨_, rfl, fin _ (n1 (by decide)) (Nat.le_trans (show _ ≤ 200 by decide) (by omega))⟩
  · exact ⟨_, rfl, fin _ (n1 (by decide)) (Nat.le_trans (show _ ≤ 200 by decide) (by omega))⟩
  · exact ⟨_, rfl, fin _ (n1 (by decide)) (Nat.le_trans (show _ ≤ 200 by decide) (by omega))⟩
  · exact ⟨_, rfl, fin _ (.int (Nat.le_trans (show _ ≤ 10 ^ 40 by decide) (by omega))) (Nat.le_trans (show _ ≤ 200 by decide +kernel) (by omega))⟩
  · exact ⟨_, rfl, fin _ (.str (by decide)) (Nat.le_trans (show _ ≤ 200 by decide) (by omega))⟩
  · exact ⟨_, rfl, fin _ (.str (by decide)) (Nat.le_trans (show _ ≤ 200 by decide) (by omega))⟩
  · exact ⟨_, rfl, fin _ (tt _ fun x hx => by cases hx) (Nat.le_trans (show _ ≤ 200 by decide) (by omega))⟩
  · exact ⟨_, rfl, fin _ (.lst (e := e + 1) fun x hx => by cases hx) (Nat.le_trans (show _ ≤ 200 by decide) (by omega))⟩
  · exact ⟨_, rfl, fin _ (.dic (e := e + 1)) (Nat.le_trans (show _ ≤ 200 by decide) (by omega))⟩
  · refine ⟨_, rfl, fin _ (.lst (e := e + 1) o1) ?_⟩
    rw [qX_lst hj o1]
    show wX d + 1 + 0 ≤ _
    omega
  · refine ⟨_, rfl, fin _ (tt _ o1) ?_⟩
    rw [qX_tup hj o1]
    show wX d + 1 + 0 ≤ _
    omega
  · refine ⟨_, rfl, fin _ (tt _ fun x hx => ?_) (Nat.le_trans (show _ ≤ 200 by decide) (by omega))⟩
    rcases List.mem_cons.mp hx with rfl | hx
    · exact .tup fun y hy => by
        rw [List.mem_singleton.mp hy]
        exact n1 (by decide)
    · rw [List.mem_singleton.mp hx]
      exact n1 (by decide)
  · refine ⟨_, rfl, fin _ (tt _ fun x hx => ?_) (Nat.le_trans (show _ ≤ 200 by decide) (by omega))⟩
    rcases List.mem_cons.mp hx with rfl | hx
    · exact n1 (by decide)
    · rw [List.mem_singleton.mp hx]
      exact n1 (by decide)
end
end K28
namespace K28
open PySem PySem.Spec PyProof.Rows L2 Ly Su
open Sk (wX sX sX_mem sX_len sX_app sX_cut sX_rev)
theorem ofS (s : String) : (Str.ofString s).cps.toList = s.toList.map Char.toNat := by
  rw [Str.ofString_eq_toList]
theorem dig_lt {c : Char} (h : c.isDigit = true) : c.toNat < 128 := by
  simp [Char.isDigit] at h
  have := h.2
  simp [UInt32.le_iff_toNat_le] at this
  omega
theorem str_int_lt (i : Int) : ∀ c ∈ (Str.ofString (toString i)).cps.toList, c < 128 := by
  intro c hc
  rw [ofS] at hc
  obtain ⟨ch, h1, rfl⟩ := List.mem_map.mp hc
  cases i with
  | ofNat n =>
    have e : toString (Int.ofNat n) = Nat.repr n := rfl
    rw [e] at h1
    have : ch ∈ Nat.toDigits 10 n := by simpa [Nat.repr] using h1
    exact dig_lt (Nat.isDigit_of_mem_toDigits (by decide) (by decide) this)
  | negSucc n =>
    have e : toString (Int.negSucc n) = "-" ++ Nat.repr (n + 1) := rfl
    rw [e, String.toList_append] at h1
    rcases List.mem_append.mp h1 with h1 | h1
    · have : ch = '-' := by simpa using h1
      subst this
      decide
    · have : ch ∈ Nat.toDigits 10 (n + 1) := by simpa [Nat.repr] using h1
      exact dig_lt (Nat.isDigit_of_mem_toDigits (by decide) (by decide) this)
theorem wX_int_le {i : Int} (h : i.natAbs ≤ 10 ^ 40 + 1000) : wX (.int i) ≤ 200 := by
  show (if (i == 0) = true then 0 else i.natAbs.log2 + 1) ≤ 200
  split
  · omega
  · next z =>
    have nz : i.natAbs ≠ 0 := by
      intro e
      have : i = 0 := by omega
      exact z (by rw [this]; rfl)
    have : i.natAbs.log2 < 198 := (Nat.log2_lt nz).mpr (Nat.lt_of_le_of_lt h (by decide))
    omega
theorem go_strXI {M : Mem} {i : Int} {Q : D → Mem → Prop} (h : i.natAbs ≤ 10 ^ 40 + 1000) : Go (fStrX [.int i] M) Q = Q (.str (Str.ofString (toString i))) M := by
  have b : i.natAbs < 10 ^ 59 := Nat.lt_of_le_of_lt h (by decide)
  obtain ⟨p, h1, h2, h3, h4, _⟩ := rp_int b
  cases h1
  have e2 : fStrX [.int i] M = .ok (.str (Str.ofString (toString i))) M := by
    have c : ((PyData.int i).showable && decide ((PyData.int i).depth ≤ 60) && decide ((PyData.int i).shown.length ≤ 1000000)) = true := by
      rw [h2, decide_eq_true (Nat.le_trans h3 (by decide)), decide_eq_true (Nat.le_trans (shown_int60 b) (by decide))]
      rfl
    unfold fStrX
    simp only [show pdXM M (.int i) = some (.int i) from rfl, c, if_true]
    rfl
  rw [e2]
  rfl
theorem str60 {i : Int} (h : i.natAbs ≤ 10 ^ 40 + 1000) : (Str.ofString (toString i)).cps.size ≤ 60 := shown_int60 (Nat.lt_of_le_of_lt h (by decide))
noncomputable def tailS : MS := (mSeq (mIfS (mAndT (mTest (mCB fIsi (mCons (mVar 1) (mCons (mC (.ty "int")) mNil)))) (mTest (mBin opLt (mVar 2) (mC (.int 6))))) (mRet (mBin opIx (mLst (mCons (mBin opAddF (mVar 1) (mC (.int 1))) (mCons (mBin opSubB (mVar 1) (mC (.int 1))) (mCons (mBin opSubB (mC (.int 0)) (mVar 1)) (mCons (mBin opEq (mVar 1) (mC (.int 1))) (mCons (mC (.int 0)) (mCons (mCB fStrX (mCons (mVar 1) mNil)) mNil))))))) (mVar 2))) mNext)
  (mRet (mCall 2 f__law_odd (mCons (mVar 0) (mCons (mVar 1) mNil)))))
section
variable {b j e n : Nat} {T M0 M : Mem} {Q : D → Mem → Prop} {d : D}
theorem tail_ok {r : Int} {S : Ly.Env → Mem → Prop} {R : D → Mem → Prop} (h : DzIs b T M) (hb : b ≤ 900000) (hd : Pq j e d) (hj : j ≤ 900) (hw : wX d ≤ n) (r0 : 0 ≤ r) (q : ∀ d' M', Pq (j + 1) (e + 3) d' → wX d' ≤ 2 * n + 300 → DzIs (b + 1) T M' → R d' M') : GoS (tailS [some (.ref 1), some d, some (.int r), none, none] M) S R := by
  have up : ∀ {d' : D}, Pq j (e + 2) d' → Pq (j + 1) (e + 3) d' := fun h => h.mono (by omega) (by omega)
  have odd : GoS (mRet (mCall 2 f__law_odd (mCons (mVar 0) (mCons (mVar 1) mNil))) [some (.ref 1), some d, some (.int r), none, none] M) S R := by
    rw [go_ret]
    simp only [go_bin, go_un, go_var, go_c, go_test, go_andT, go_orT, go_notT, go_yes, go_andV, go_if, go_nil, go_cons, go_tup, go_lst, go_lstC, go_cb, go_call, go_callW, go_meth, go_noPart, go_part, go_sl, go_get, go_retN, go_lc, go_dc, go_iter, go_enum, go_rng, go_rng1, go_rng2, go_rng3, go_disp, go_pnil, go_pcons, go_bdT, go_bdF, go_ok, go_nx, go_rt, go_addI, go_addS, go_addT, go_addL, go_subI, go_mulI, go_mulL, go_modI, go_fdivI, go_powI, go_ltI, go_leI, go_gtI, go_geI, go_eqI, go_eqS, go_neI, go_neS, go_ixF, go_ixT, go_ixS, go_ixD, go_slT, go_slF, go_slR, go_slS, go_revF, go_revCF, go_revAT, go_revAL, List.getElem?_cons_zero, List.getElem?_cons_succ, List.set_cons_zero, List.set_cons_succ, List.length_cons, List.length_nil, D.int.injEq, D.bl.injEq, D.str.injEq, Option.some.injEq, exists_eq_left', go_listF, go_listT, go_tupleF, go_tupleT, go_lenF, go_lenT, go_lenS, go_isiS, go_isiI, go_intI, go_intB, go_maxI, it_lst, it_tupD, it_strD, en_lst, en_tup, fr_gN, wipeD, go_inTab, go_notInTab, go_tab, go_lc2, go_par2, go_par3, go_asg, go_isB, go_tell, go_kget, go_notB, go_slStep, go_slStepT, go_dictZip, go_setEq]
    refine ⟨trivial, odd_ok h hb hd (by omega) hw fun d' M' p w h1 => q d' M' (up p) (by omega) h1⟩
  have fin : ∀ d', Pq (j + 1) (e + 3) d' → wX d' ≤ 2 * n + 300 → R d' M := fun d' p w => q d' M p w (h.mono (by omega))
  unfold tailS
  rw [go_seq, go_ifS, go_andT]
  simp only [go_bin, go_un, go_var, go_c, go_test, go_andT, go_orT, go_notT, go_yes, go_andV, go_if, go_nil, go_cons, go_tup, go_lst, go_lstC, go_cb, go_call, go_callW, go_meth, go_noPart, go_part, go_sl, go_get, go_retN, go_lc, go_dc, go_iter, go_enum, go_rng, go_rng1, go_rng2, go_rng3, go_disp, go_pnil, go_pcons, go_bdT, go_bdF, go_ok, go_nx, go_rt, go_addI, go_addS, go_addT, go_addL, go_subI, go_mulI, go_mulL, go_modI, go_fdivI, go_powI, go_ltI, go_leI, go_gtI, go_geI, go_eqI, go_eqS, go_neI, go_neS, go_ixF, go_ixT, go_ixS, go_ixD, go_slT, go_slF, go_slR, go_slS, go_revF, go_revCF, go_revAT, go_revAL, List.getElem?_cons_zero, List.getElem?_cons_succ, List.set_cons_zero, List.set_cons_succ, List.length_cons, List.length_nil, D.int.injEq, D.bl.injEq, D.str.injEq, Option.some.injEq, exists_eq_left', go_listF, go_listT, go_tupleF, go_tupleT, go_lenF, go_lenT, go_lenS, go_isiS, go_isiI, go_intI, go_intB, go_maxI, it_lst, it_tupD, it_strD, en_lst, en_tup, fr_gN, wipeD, go_inTab, go_notInTab, go_tab, go_lc2, go_par2, go_par3, go_asg, go_isB, go_tell, go_kget, go_notB, go_slStep, go_slStepT, go_dictZip, go_setEq, isi_intQ hd]
  cases hd with
  | @int _ i hi =>
    simp only [if_true]
    by_cases h6 : r < 6
    · have i1 : i.natAbs ≤ 10 ^ 40 + 1000 := by omega
      rw [if_pos (decide_eq_true h6), go_ret]
      simp only [go_bin, go_un, go_var, go_c, go_test, go_andT, go_orT, go_notT, go_yes, go_andV, go_if, go_nil, go_cons, go_tup, go_lst, go_lstC, go_cb, go_call, go_callW, go_meth, go_noPart, go_part, go_sl, go_get, go_retN, go_lc, go_dc, go_iter, go_enum, go_rng, go_rng1, go_rng2, go_rng3, go_disp, go_pnil, go_pcons, go_bdT, go_bdF, go_ok, go_nx, go_rt, go_addI, go_addS, go_addT, go_addL, go_subI, go_mulI, go_mulL, go_modI, go_fdivI, go_powI, go_ltI, go_leI, go_gtI, go_geI, go_eqI, go_eqS, go_neI, go_neS, go_ixF, go_ixT, go_ixS, go_ixD, go_slT, go_slF, go_slR, go_slS, go_revF, go_revCF, go_revAT, go_revAL, List.getElem?_cons_zero, List.getElem?_cons_succ, List.set_cons_zero, List.set_cons_succ, List.length_cons, List.length_nil, D.int.injEq, D.bl.injEq, D.str.injEq, Option.some.injEq, exists_eq_left', go_listF, go_listT, go_tupleF, go_tupleT, go_lenF, go_lenT, go_lenS, go_isiS, go_isiI, go_intI, go_intB, go_maxI, it_lst, it_tupD, it_strD, en_lst, en_tup, fr_gN, wipeD, go_inTab, go_notInTab, go_tab, go_lc2, go_par2, go_par3, go_asg, go_isB, go_tell, go_kget, go_notB, go_slStep, go_slStepT, go_dictZip, go_setEq, go_addFI, go_subBII, go_strXI i1]
      refine ⟨by decide, ?_⟩
      have rr : r = 0 ∨ r = 1 ∨ r = 2 ∨ r = 3 ∨ r = 4 ∨ r = 5 := by omega
      have small : ∀ z : Int, z.natAbs ≤ i.natAbs + 1 → R (.int z) M := fun z hz => fin _ (.int (by omega)) (Nat.le_trans (wX_int_le (by omega)) (by omega))
      rcases rr with rfl | rfl | rfl | rfl | rfl | rfl
      · exact ⟨_, rfl, small _ (by omega)⟩
      · exact ⟨_, rfl, small _ (by omega)⟩
      · exact ⟨_, rfl, small _ (by omega)⟩
      · exact ⟨_, rfl, fin _ .bl (Nat.zero_le _)⟩
      · exact ⟨_, rfl, small _ (by omega)⟩
      · exact ⟨_, rfl, fin _ (.str (str_int_lt i)) (Nat.le_trans (str60 i1) (by omega))⟩
    · rw [if_neg (by simpa using h6), go_next]
      exact odd
  | @bl _ c =>
    simp only [if_true]
    by_cases h6 : r < 6
    · rw [if_pos (decide_eq_true h6), go_ret]
      have hs : fStrX [.bl c] M = .ok (.str (if c then "True" else "False")) M := by
        cases c <;> rfl
      have he : opEq (.bl c) (.int 1) M = .ok (.bl c) M := by
        cases c <;> rfl
      have s0 : opSubB (.int 0) (.bl c) M = .ok (.int (0 - bI c)) M := rfl
      simp only [go_bin, go_un, go_var, go_c, go_test, go_andT, go_orT, go_notT, go_yes, go_andV, go_if, go_nil, go_cons, go_tup, go_lst, go_lstC, go_cb, go_call, go_callW, go_meth, go_noPart, go_part, go_sl, go_get, go_retN, go_lc, go_dc, go_iter, go_enum, go_rng, go_rng1, go_rng2, go_rng3, go_disp, go_pnil, go_pcons, go_bdT, go_bdF, go_ok, go_nx, go_rt, go_addI, go_addS, go_addT, go_addL, go_subI, go_mulI, go_mulL, go_modI, go_fdivI, go_powI, go_ltI, go_leI, go_gtI, go_geI, go_eqI, go_eqS, go_neI, go_neS, go_ixF, go_ixT, go_ixS, go_ixD, go_slT, go_slF, go_slR, go_slS, go_revF, go_revCF, go_revAT, go_revAL, List.getElem?_cons_zero, List.getElem?_cons_succ, List.set_cons_zero, List.set_cons_succ, List.length_cons, List.length_nil, D.int.injEq, D.bl.injEq, D.str.injEq, Option.some.injEq, exists_eq_left', go_listF, go_listT, go_tupleF, go_tupleT, go_lenF, go_lenT, go_lenS, go_isiS, go_isiI, go_intI, go_intB, go_maxI, it_lst, it_tupD, it_strD, en_lst, en_tup, fr_gN, wipeD, go_inTab, go_notInTab, go_tab, go_lc2, go_par2, go_par3, go_asg, go_isB, go_tell, go_kget, go_notB, go_slStep, go_slStepT, go_dictZip, go_setEq, go_addFB, go_subBI, hs, he, s0, go_ok]
      refine ⟨by decide, ?_⟩
      have rr : r = 0 ∨ r = 1 ∨ r = 2 ∨ r = 3 ∨ r = 4 ∨ r = 5 := by omega
      have bc : 0 ≤ bI c ∧ bI c ≤ 1 := by cases c <;> decide
      have small : ∀ z : Int, z.natAbs ≤ 2 → R (.int z) M := fun z hz => fin _ (.int (by omega)) (Nat.le_trans (wX_int_le (by omega)) (by omega))
      rcases rr with rfl | rfl | rfl | rfl | rfl | rfl
      · exact ⟨_, rfl, small _ (by omega)⟩
      · exact ⟨_, rfl, small _ (by omega)⟩
      · exact ⟨_, rfl, small _ (by omega)⟩
      · exact ⟨_, rfl, fin _ .bl (Nat.zero_le _)⟩
      · exact ⟨_, rfl, small _ (by omega)⟩
      · refine ⟨_, rfl, fin _ (.str ?_) (Nat.le_trans (show _ ≤ 60 from ?_) (by omega))⟩
        · cases c <;> decide
        · cases c <;> decide
    · rw [if_neg (by simpa using h6), go_next]
      exact odd
  | _ =>
    simp only [Bool.false_eq_true, if_false]
    rw [go_next]
    exact odd
end
theorem sl_any' {d : D} {ds : List D} (h : tupV d = some ds) (lo hi : Option Int) (M : Mem) : ∃ d2, opSl d lo hi M = .ok d2 M ∧ tupV d2 = some (Ly.cutD ds lo hi) := by
  cases d <;> first | (cases (show (none : Option (List D)) = some _ from h)) | skip
  · cases h
    exact ⟨_, rfl, rfl⟩
  · cases h
    by_cases hc : HT.sIx ds.length 0 lo = 0 ∧ HT.sIx ds.length ds.length hi = ds.length
    · refine ⟨.ftu ds, if_pos hc, ?_⟩
      have : Ly.cutD ds lo hi = ds := by
        unfold Ly.cutD
        rw [hc.1, hc.2, List.drop_zero, Nat.sub_zero, List.take_length]
      rw [this]
      rfl
    · exact ⟨_, if_neg hc, rfl⟩
theorem sl_to {d : D} {ds : List D} (h : tupV d = some ds) {m : Nat} (hm : m < ds.length) (M : Mem) : opSl d none (some (m : Int)) M = .ok (.tup (ds.take m)) M := by
  cases d <;> first | (cases (show (none : Option (List D)) = some _ from h)) | skip
  · cases h
    show Res.ok (D.tup (Ly.cutD ds none (some (m : Int)))) M = _
    rw [cut_to]
  · cases h
    have hc : ¬ (HT.sIx ds.length 0 none = 0 ∧ HT.sIx ds.length ds.length (some (m : Int)) = ds.length) := fun hc => by
      have := hc.2
      rw [HT.sIx_nat] at this
      omega
    show (if _ then _ else _) = _
    rw [if_neg hc, cut_to]
theorem sl_from {d : D} {ds : List D} (h : tupV d = some ds) {m : Nat} (h0 : 0 < ds.length) (hm : 0 < m) (M : Mem) : opSl d (some (m : Int)) none M = .ok (.tup (ds.drop m)) M := by
  cases d <;> first | (cases (show (none : Option (List D)) = some _ from h)) | skip
  · cases h
    show Res.ok (D.tup (Ly.cutD ds (some (m : Int)) none)) M = _
    rw [cut_from]
  · cases h
    have hc : ¬ (HT.sIx ds.length 0 (some (m : Int)) = 0 ∧ HT.sIx ds.length ds.length none = ds.length) := fun hc => by
      have := hc.1
      rw [HT.sIx_nat] at this
      omega
    show (if _ then _ else _) = _
    rw [if_neg hc, cut_from]
theorem rev_any {d : D} {ds : List D} (h : tupV d = some ds) (M : Mem) : opRevA d M = .ok (.tup ds.reverse) M := by
  cases d <;> first | (cases (show (none : Option (List D)) = some _ from h)) | skip
  · cases h
    rfl
  · cases h
    rfl
theorem list_any {d : D} {ds : List D} (h : tupV d = some ds) (M : Mem) : fList [d] M = .ok (.lst ds) M := by
  cases d <;> first | (cases (show (none : Option (List D)) = some _ from h)) | skip
  · cases h
    rfl
  · cases h
    rfl
theorem ne_any {d : D} {ds : List D} (h : tupV d = some ds) (M : Mem) : opNeE d (.tup []) M = .ok (.bl (!ds.isEmpty)) M := by
  cases d <;> first | (cases (show (none : Option (List D)) = some _ from h)) | skip
  · cases h
    rfl
  · cases h
    rfl
theorem tup_end {j e n : Nat} {ds ds' : List D} (hj : j ≤ 900) (h : ∀ x ∈ ds, Pq j e x) (sub : ∀ x ∈ ds', x ∈ ds) (hw : sX ds ≤ n) (hw' : sX ds' ≤ 2 * sX ds + 300) : Pq (j + 1) (e + 4) (.tup ds') ∧ wX (.tup ds') ≤ 2 * n + 300 := by
  have all : ∀ x ∈ ds', Pq j (e + 3) x := fun x hx => (h x (sub x hx)).mono (by omega) (by omega)
  refine ⟨.tup fun x hx => (all x hx).mono (by omega) (by omega), ?_⟩
  rw [qX_tup (by omega) all]
  omega
theorem bent_at {j e n : Nat} {ds : List D} {i : Nat} {d d' : D} (hj : j ≤ 900) (h : ∀ x ∈ ds, Pq j e x) (hd : ds[i]? = some d) (h' : Pq (j + 1) (e + 3) d') (hw : sX ds ≤ n) (hw' : wX d' ≤ 2 * wX d + 300) : Pq (j + 1) (e + 4) (.tup (ds.take i ++ [d'] ++ ds.drop (i + 1))) ∧ wX (.tup (ds.take i ++ [d'] ++ ds.drop (i + 1))) ≤ 2 * n + 300 := by
  have all : ∀ x ∈ ds.take i ++ [d'] ++ ds.drop (i + 1), Pq (j + 1) (e + 3) x := fun x hx => by
    rcases List.mem_append.mp hx with hx | hx
    · rcases List.mem_append.mp hx with hx | hx
      · exact (h x (List.mem_of_mem_take hx)).mono (by omega) (by omega)
      · rw [List.mem_singleton.mp hx]
        exact h'
    · exact (h x (List.mem_of_mem_drop hx)).mono (by omega) (by omega)
  refine ⟨.tup all, ?_⟩
  rw [qX_tup (by omega) all, sX_app, sX_app]
  have c := sX_cut ds i
  have e1 : ds.drop i = d :: ds.drop (i + 1) := by
    obtain ⟨hi, hv⟩ := List.getElem?_eq_some_iff.mp hd
    rw [List.drop_eq_getElem_cons hi, hv]
  rw [e1] at c
  have c2 : sX (d :: ds.drop (i + 1)) = wX d + 1 + sX (ds.drop (i + 1)) := rfl
  have c3 : sX [d'] = wX d' + 1 + 0 := rfl
  omega
end K28
namespace K28
open PySem PySem.Spec PyProof.Rows L2 Ly Su
open Sk (wX sX sX_mem sX_len sX_app sX_cut sX_rev)
theorem cut_mid (ds : List D) (m : Nat) : Ly.cutD ds (some (m : Int)) (some ((m + 2 : Nat) : Int)) = (ds.drop m).take 2 := by
  unfold Ly.cutD
  rw [HT.sIx_nat, HT.sIx_nat]
  by_cases hm : m ≤ ds.length
  · rw [Nat.min_eq_left hm]
    by_cases h2 : m + 2 ≤ ds.length
    · rw [Nat.min_eq_left h2, show m + 2 - m = 2 by omega]
    · rw [Nat.min_eq_right (show ds.length ≤ m + 2 by omega), List.take_of_length_le (by rw [List.length_drop]; omega), List.take_of_length_le (by rw [List.length_drop]; omega)]
  · rw [Nat.min_eq_right (show ds.length ≤ m by omega), List.drop_eq_nil_of_le (Nat.le_refl _), List.drop_eq_nil_of_le (show ds.length ≤ m by omega), List.take_nil, List.take_nil]
theorem bent_ok : ∀ (k : Nat) {e j n b : Nat} {T M : Mem} {d : D} {Q : D → Mem → Prop}, e < k → Pq j e d → j ≤ 900 → wX d ≤ n → n ≤ 9000 → DzIs b T M → b + 4 * k ≤ 900000 → (∀ d' M', Pq (j + 1) (e + 3) d' → wX d' ≤ 2 * n + 300 → DzIs (b + 4 * k) T M' → Q d' M') → Go (fr__law_bent k [.ref 1, d] M) Q
  | 0, e, j, n, b, T, M, d, Q, he, _, _, _, _, _, _, _ => absurd he (Nat.not_lt_zero _)
  | k + 1, e, j, n, b, T, M, d, Q, he, h, hj, hw, hn, hd, hb, q => by
    rw [fr__law_bent, go_callD]
    show GoS (m__law_bent (fr__law_bent k) [some (.ref 1), some d, none, none, none] M) _ _
    unfold m__law_bent
    rw [e_draw, go_seq, go_set]
    simp only [go_bin, go_un, go_var, go_c, go_test, go_andT, go_orT, go_notT, go_yes, go_andV, go_if, go_nil, go_cons, go_tup, go_lst, go_lstC, go_cb, go_call, go_callW, go_meth, go_noPart, go_part, go_sl, go_get, go_retN, go_lc, go_dc, go_iter, go_enum, go_rng, go_rng1, go_rng2, go_rng3, go_disp, go_pnil, go_pcons, go_bdT, go_bdF, go_ok, go_nx, go_rt, go_addI, go_addS, go_addT, go_addL, go_subI, go_mulI, go_mulL, go_modI, go_fdivI, go_powI, go_ltI, go_leI, go_gtI, go_geI, go_eqI, go_eqS, go_neI, go_neS, go_ixF, go_ixT, go_ixS, go_ixD, go_slT, go_slF, go_slR, go_slS, go_revF, go_revCF, go_revAT, go_revAL, List.getElem?_cons_zero, List.getElem?_cons_succ, List.set_cons_zero, List.set_cons_succ, List.length_cons, List.length_nil, D.int.injEq, D.bl.injEq, D.str.injEq, Option.some.injEq, exists_eq_left', go_listF, go_listT, go_tupleF, go_tupleT, go_lenF, go_lenT, go_lenS, go_isiS, go_isiI, go_intI, go_intB, go_maxI, it_lst, it_tupD, it_strD, en_lst, en_tup, fr_gN, wipeD, go_inTab, go_notInTab, go_tab, go_lc2, go_par2, go_par3, go_asg, go_isB, go_tell, go_kget, go_notB, go_slStep, go_slStepT, go_dictZip, go_setEq, List.set_cons_zero, List.set_cons_succ]
    refine ⟨trivial, draw_ok hd (by omega) (by decide) (by decide) fun r M1 r0 r1 h1 => ?_⟩
    have fin : ∀ (c : Nat) (d' : D) (M2 : Mem), c ≤ b + 4 * (k + 1) → Pq (j + 1) (e + 3) d' → wX d' ≤ 2 * n + 300 → DzIs c T M2 → Go (Ly.finish M d' M2) Q := fun c d' M2 hc p w h2 =>
      go_fin_dz0 hd h2 (frz_low (pq_low p)) fun M3 h3 => q d' M3 p w (h3.mono hc)
    have tail : GoS (tailS [some (.ref 1), some d, some (.int r), none, none] M1) (fun _ M' => Go (Ly.finish M .non M') Q) (fun d' M' => Go (Ly.finish M d' M') Q) :=
      tail_ok h1 (by omega) h hj hw r0 fun d' M' p w h2 => fin (b + 1 + 1) d' M' (by omega) p w h2
    rw [go_seq, go_ifS, go_andT]
    simp only [go_bin, go_un, go_var, go_c, go_test, go_andT, go_orT, go_notT, go_yes, go_andV, go_if, go_nil, go_cons, go_tup, go_lst, go_lstC, go_cb, go_call, go_callW, go_meth, go_noPart, go_part, go_sl, go_get, go_retN, go_lc, go_dc, go_iter, go_enum, go_rng, go_rng1, go_rng2, go_rng3, go_disp, go_pnil, go_pcons, go_bdT, go_bdF, go_ok, go_nx, go_rt, go_addI, go_addS, go_addT, go_addL, go_subI, go_mulI, go_mulL, go_modI, go_fdivI, go_powI, go_ltI, go_leI, go_gtI, go_geI, go_eqI, go_eqS, go_neI, go_neS, go_ixF, go_ixT, go_ixS, go_ixD, go_slT, go_slF, go_slR, go_slS, go_revF, go_revCF, go_revAT, go_revAL, List.getElem?_cons_zero, List.getElem?_cons_succ, List.set_cons_zero, List.set_cons_succ, List.length_cons, List.length_nil, D.int.injEq, D.bl.injEq, D.str.injEq, Option.some.injEq, exists_eq_left', go_listF, go_listT, go_tupleF, go_tupleT, go_lenF, go_lenT, go_lenS, go_isiS, go_isiI, go_intI, go_intB, go_maxI, it_lst, it_tupD, it_strD, en_lst, en_tup, fr_gN, wipeD, go_inTab, go_notInTab, go_tab, go_lc2, go_par2, go_par3, go_asg, go_isB, go_tell, go_kget, go_notB, go_slStep, go_slStepT, go_dictZip, go_setEq, isi_tupQ h]
    cases ht : tupV d with
    | none =>
      simp only [Option.isSome_none, Bool.false_eq_true, if_false]
      rw [go_next]
      exact tail
    | some L =>
      obtain ⟨e0, rfl, v⟩ := h.view (by omega) ht
      simp only [Option.isSome_some, if_true, ne_any ht, go_ok]
      cases hL : L.isEmpty with
      | true =>
        refine ⟨by decide, _, rfl, ?_⟩
        simp only [Bool.not_true, Bool.false_eq_true, if_false]
        rw [go_next]
        exact tail
      | false =>
        refine ⟨by decide, _, rfl, ?_⟩
        simp only [Bool.not_false, if_true]
        by_cases h11 : r < 11
        · rw [if_pos (decide_eq_true h11)]
          have pos : 0 < L.length := by
            cases L with
            | nil => cases hL
            | cons _ _ => exact Nat.succ_pos _
          have hw2 : sX L ≤ n := v.w ▸ hw
          have len := sX_len L
          rw [go_seq, go_set]
          simp only [go_bin, go_un, go_var, go_c, go_test, go_andT, go_orT, go_notT, go_yes, go_andV, go_if, go_nil, go_cons, go_tup, go_lst, go_lstC, go_cb, go_call, go_callW, go_meth, go_noPart, go_part, go_sl, go_get, go_retN, go_lc, go_dc, go_iter, go_enum, go_rng, go_rng1, go_rng2, go_rng3, go_disp, go_pnil, go_pcons, go_bdT, go_bdF, go_ok, go_nx, go_rt, go_addI, go_addS, go_addT, go_addL, go_subI, go_mulI, go_mulL, go_modI, go_fdivI, go_powI, go_ltI, go_leI, go_gtI, go_geI, go_eqI, go_eqS, go_neI, go_neS, go_ixF, go_ixT, go_ixS, go_ixD, go_slT, go_slF, go_slR, go_slS, go_revF, go_revCF, go_revAT, go_revAL, List.getElem?_cons_zero, List.getElem?_cons_succ, List.set_cons_zero, List.set_cons_succ, List.length_cons, List.length_nil, D.int.injEq, D.bl.injEq, D.str.injEq, Option.some.injEq, exists_eq_left', go_listF, go_listT, go_tupleF, go_tupleT, go_lenF, go_lenT, go_lenS, go_isiS, go_isiI, go_intI, go_intB, go_maxI, it_lst, it_tupD, it_strD, en_lst, en_tup, fr_gN, wipeD, go_inTab, go_notInTab, go_tab, go_lc2, go_par2, go_par3, go_asg, go_isB, go_tell, go_kget, go_notB, go_slStep, go_slStepT, go_dictZip, go_setEq, List.set_cons_zero, List.set_cons_succ, v.ln, go_ok, true_and]
          refine draw_ok h1 (by omega) (by omega) (by omega) fun i M2 i0 i1 h2 => ?_
          obtain ⟨m, rfl⟩ := Int.eq_ofNat_of_zero_le i0
          have hm : m < L.length := by omega
          have m1 : ((m : Int) + 1) = ((m + 1 : Nat) : Int) := by omega
          have m2 : ((m : Int) + 2) = ((m + 2 : Nat) : Int) := by omega
          obtain ⟨y, ey, ey2⟩ : ∃ y, L[m]? = some y ∧ atI L (m : Int) = some y := atI_of i0 (by omega)
          have c := sX_cut L m
          have c1 := sX_cut L (m + 1)
          have c2 := sX_cut L (m + 2)
          have dd : sX (L.drop (m + 1)) ≤ sX L := by omega
          have d3 : sX (L.drop (m + 1)) ≤ sX (L.drop m) := by
            rw [List.drop_eq_getElem_cons hm]
            show _ ≤ wX _ + 1 + sX (L.drop (m + 1))
            omega
          rw [go_seq, go_ifS]
          simp only [go_bin, go_un, go_var, go_c, go_test, go_andT, go_orT, go_notT, go_yes, go_andV, go_if, go_nil, go_cons, go_tup, go_lst, go_lstC, go_cb, go_call, go_callW, go_meth, go_noPart, go_part, go_sl, go_get, go_retN, go_lc, go_dc, go_iter, go_enum, go_rng, go_rng1, go_rng2, go_rng3, go_disp, go_pnil, go_pcons, go_bdT, go_bdF, go_ok, go_nx, go_rt, go_addI, go_addS, go_addT, go_addL, go_subI, go_mulI, go_mulL, go_modI, go_fdivI, go_powI, go_ltI, go_leI, go_gtI, go_geI, go_eqI, go_eqS, go_neI, go_neS, go_ixF, go_ixT, go_ixS, go_ixD, go_slT, go_slF, go_slR, go_slS, go_revF, go_revCF, go_revAT, go_revAL, List.getElem?_cons_zero, List.getElem?_cons_succ, List.set_cons_zero, List.set_cons_succ, List.length_cons, List.length_nil, D.int.injEq, D.bl.injEq, D.str.injEq, Option.some.injEq, exists_eq_left', go_listF, go_listT, go_tupleF, go_tupleT, go_lenF, go_lenT, go_lenS, go_isiS, go_isiI, go_intI, go_intB, go_maxI, it_lst, it_tupD, it_strD, en_lst, en_tup, fr_gN, wipeD, go_inTab, go_notInTab, go_tab, go_lc2, go_par2, go_par3, go_asg, go_isB, go_tell, go_kget, go_notB, go_slStep, go_slStepT, go_dictZip, go_setEq]
          by_cases h4 : r > 4
          · rw [if_pos (decide_eq_true h4), go_ret]
            have hy : y ∈ L := List.mem_of_getElem? ey
            simp only [go_bin, go_un, go_var, go_c, go_test, go_andT, go_orT, go_notT, go_yes, go_andV, go_if, go_nil, go_cons, go_tup, go_lst, go_lstC, go_cb, go_call, go_callW, go_meth, go_noPart, go_part, go_sl, go_get, go_retN, go_lc, go_dc, go_iter, go_enum, go_rng, go_rng1, go_rng2, go_rng3, go_disp, go_pnil, go_pcons, go_bdT, go_bdF, go_ok, go_nx, go_rt, go_addI, go_addS, go_addT, go_addL, go_subI, go_mulI, go_mulL, go_modI, go_fdivI, go_powI, go_ltI, go_leI, go_gtI, go_geI, go_eqI, go_eqS, go_neI, go_neS, go_ixF, go_ixT, go_ixS, go_ixD, go_slT, go_slF, go_slR, go_slS, go_revF, go_revCF, go_revAT, go_revAL, List.getElem?_cons_zero, List.getElem?_cons_succ, List.set_cons_zero, List.set_cons_succ, List.length_cons, List.length_nil, D.int.injEq, D.bl.injEq, D.str.injEq, Option.some.injEq, exists_eq_left', go_listF, go_listT, go_tupleF, go_tupleT, go_lenF, go_lenT, go_lenS, go_isiS, go_isiI, go_intI, go_intB, go_maxI, it_lst, it_tupD, it_strD, en_lst, en_tup, fr_gN, wipeD, go_inTab, go_notInTab, go_tab, go_lc2, go_par2, go_par3, go_asg, go_isB, go_tell, go_kget, go_notB, go_slStep, go_slStepT, go_dictZip, go_setEq, m1, sl_to ht hm, sl_from ht pos (Nat.succ_pos m), v.ix _ _ _ ey2, go_ok]
            refine ⟨trivial, bent_ok k (n := wX y) (by omega) (v.all y hy) hj (Nat.le_refl _) (by have := sX_mem hy; omega) h2 (by omega) fun d' M3 p w h3 => ⟨by decide, ?_⟩⟩
            have tl : (L.take m).length ≤ 9000 := by rw [List.length_take]; omega
            have dl : (L.drop (m + 1)).length ≤ 9000 := by rw [List.length_drop]; omega
            refine go_addFT (by show (L.take m).length + 1 ≤ 100000; omega) ?_
            rw [go_addFI]
            refine ⟨_, rfl, ?_⟩
            rw [m1, sl_from ht pos (Nat.succ_pos m), go_ok]
            show Go (opAddF (.tup (L.take m ++ [d'])) (.tup (L.drop (m + 1))) M3) _
            refine go_addFT (by rw [List.length_append]; show (L.take m).length + 1 + (L.drop (m + 1)).length ≤ 100000; omega) ?_
            obtain ⟨p1, p2⟩ := bent_at hj v.all ey p hw2 w
            exact fin (b + 1 + 1 + 4 * k) _ M3 (by omega) p1 p2 h3
          · rw [if_neg (by simpa using h4), go_next, go_seq, go_set]
            obtain ⟨a1, a2, a3⟩ := sl_any' ht none (some ((m + 1 : Nat) : Int)) M2
            obtain ⟨b1, b2, b3⟩ := sl_any' ht (some (m : Int)) none M2
            obtain ⟨f1, f2, f3⟩ := sl_any' ht (some (m : Int)) (some ((m + 2 : Nat) : Int)) M2
            rw [cut_to] at a3
            rw [cut_from] at b3
            rw [cut_mid] at f3
            have n1 : L.take (m + 1) ≠ [] := fun z => by
              have := congrArg List.length z
              rw [List.length_take, List.length_nil] at this
              omega
            have n2 : L.drop m ≠ [] := fun z => by
              have := congrArg List.length z
              rw [List.length_drop, List.length_nil] at this
              omega
            simp only [go_bin, go_un, go_var, go_c, go_test, go_andT, go_orT, go_notT, go_yes, go_andV, go_if, go_nil, go_cons, go_tup, go_lst, go_lstC, go_cb, go_call, go_callW, go_meth, go_noPart, go_part, go_sl, go_get, go_retN, go_lc, go_dc, go_iter, go_enum, go_rng, go_rng1, go_rng2, go_rng3, go_disp, go_pnil, go_pcons, go_bdT, go_bdF, go_ok, go_nx, go_rt, go_addI, go_addS, go_addT, go_addL, go_subI, go_mulI, go_mulL, go_modI, go_fdivI, go_powI, go_ltI, go_leI, go_gtI, go_geI, go_eqI, go_eqS, go_neI, go_neS, go_ixF, go_ixT, go_ixS, go_ixD, go_slT, go_slF, go_slR, go_slS, go_revF, go_revCF, go_revAT, go_revAL, List.getElem?_cons_zero, List.getElem?_cons_succ, List.set_cons_zero, List.set_cons_succ, List.length_cons, List.length_nil, D.int.injEq, D.bl.injEq, D.str.injEq, Option.some.injEq, exists_eq_left', go_listF, go_listT, go_tupleF, go_tupleT, go_lenF, go_lenT, go_lenS, go_isiS, go_isiI, go_intI, go_intB, go_maxI, it_lst, it_tupD, it_strD, en_lst, en_tup, fr_gN, wipeD, go_inTab, go_notInTab, go_tab, go_lc2, go_par2, go_par3, go_asg, go_isB, go_tell, go_kget, go_notB, go_slStep, go_slStepT, go_dictZip, go_setEq, m1, go_addFI, sl_to ht hm, sl_from ht pos (Nat.succ_pos m), a2, b2, rev_any ht, list_any ht, go_ok]
            refine go_addFT (by rw [List.length_take, List.length_drop]; omega) ?_
            rw [a2, go_ok, b2, go_ok]
            refine go_addFt a3 b3 n1 n2 (by rw [List.length_take, List.length_drop]; omega) ?_
            refine ⟨by decide, ?_⟩
            have at2 : (M2 ++ [Cell.lst [D.tup (L.take m ++ L.drop m.succ), D.tup (L.take (m + 1) ++ L.drop m), D.tup L.reverse, D.lst L]])[M2.length]? = some (.lst [D.tup (L.take m ++ L.drop m.succ), D.tup (L.take (m + 1) ++ L.drop m), D.tup L.reverse, D.lst L]) := get_last
            rw [go_seq, go_drop]
            simp only [go_bin, go_un, go_var, go_c, go_test, go_andT, go_orT, go_notT, go_yes, go_andV, go_if, go_nil, go_cons, go_tup, go_lst, go_lstC, go_cb, go_call, go_callW, go_meth, go_noPart, go_part, go_sl, go_get, go_retN, go_lc, go_dc, go_iter, go_enum, go_rng, go_rng1, go_rng2, go_rng3, go_disp, go_pnil, go_pcons, go_bdT, go_bdF, go_ok, go_nx, go_rt, go_addI, go_addS, go_addT, go_addL, go_subI, go_mulI, go_mulL, go_modI, go_fdivI, go_powI, go_ltI, go_leI, go_gtI, go_geI, go_eqI, go_eqS, go_neI, go_neS, go_ixF, go_ixT, go_ixS, go_ixD, go_slT, go_slF, go_slR, go_slS, go_revF, go_revCF, go_revAT, go_revAL, List.getElem?_cons_zero, List.getElem?_cons_succ, List.set_cons_zero, List.set_cons_succ, List.length_cons, List.length_nil, D.int.injEq, D.bl.injEq, D.str.injEq, Option.some.injEq, exists_eq_left', go_listF, go_listT, go_tupleF, go_tupleT, go_lenF, go_lenT, go_lenS, go_isiS, go_isiI, go_intI, go_intB, go_maxI, it_lst, it_tupD, it_strD, en_lst, en_tup, fr_gN, wipeD, go_inTab, go_notInTab, go_tab, go_lc2, go_par2, go_par3, go_asg, go_isB, go_tell, go_kget, go_notB, go_slStep, go_slStepT, go_dictZip, go_setEq, m1, m2, go_addFI, sl_to ht hm, sl_from ht pos (Nat.succ_pos (m + 1)), go_ok]
            refine ⟨isLst_ref at2, ?_⟩
            generalize hM3 : M2 ++ [Cell.lst [D.tup (L.take m ++ L.drop m.succ), D.tup (L.take (m + 1) ++ L.drop m), D.tup L.reverse, D.lst L]] = M3 at at2 ⊢
            obtain ⟨g1, g2, g3⟩ := sl_any' ht (some (m : Int)) (some ((m + 2 : Nat) : Int)) M3
            rw [cut_mid] at g3
            rw [g2, go_ok, rev_any g3, go_ok]
            have l2 : ((L.drop m).take 2).length ≤ 9000 := by rw [List.length_take, List.length_drop]; omega
            have tl : (L.take m).length ≤ 9000 := by rw [List.length_take]; omega
            have dl : (L.drop (m + 1).succ).length ≤ 9000 := by rw [List.length_drop]; omega
            refine go_addFT (by rw [List.length_reverse]; omega) ?_
            refine go_addFT (by rw [List.length_append, List.length_reverse]; omega) ?_
            rw [go_append at2]
            refine ⟨Nat.le_of_ble_eq_true rfl, ?_⟩
            have hset : M3.set M2.length (.lst ([D.tup (L.take m ++ L.drop m.succ), D.tup (L.take (m + 1) ++ L.drop m), D.tup L.reverse, D.lst L] ++ [D.tup (L.take m ++ ((L.drop m).take 2).reverse ++ L.drop (m + 1).succ)])) = M2 ++ [.lst [D.tup (L.take m ++ L.drop m.succ), D.tup (L.take (m + 1) ++ L.drop m), D.tup L.reverse, D.lst L, D.tup (L.take m ++ ((L.drop m).take 2).reverse ++ L.drop (m + 1).succ)]] := by
              rw [← hM3, Su.set_last]
              rfl
            rw [hset, go_ret]
            have at3 : (M2 ++ [Cell.lst [D.tup (L.take m ++ L.drop m.succ), D.tup (L.take (m + 1) ++ L.drop m), D.tup L.reverse, D.lst L, D.tup (L.take m ++ ((L.drop m).take 2).reverse ++ L.drop (m + 1).succ)]])[M2.length]? = some (.lst [D.tup (L.take m ++ L.drop m.succ), D.tup (L.take (m + 1) ++ L.drop m), D.tup L.reverse, D.lst L, D.tup (L.take m ++ ((L.drop m).take 2).reverse ++ L.drop (m + 1).succ)]) := get_last
            simp only [go_bin, go_un, go_var, go_c, go_test, go_andT, go_orT, go_notT, go_yes, go_andV, go_if, go_nil, go_cons, go_tup, go_lst, go_lstC, go_cb, go_call, go_callW, go_meth, go_noPart, go_part, go_sl, go_get, go_retN, go_lc, go_dc, go_iter, go_enum, go_rng, go_rng1, go_rng2, go_rng3, go_disp, go_pnil, go_pcons, go_bdT, go_bdF, go_ok, go_nx, go_rt, go_addI, go_addS, go_addT, go_addL, go_subI, go_mulI, go_mulL, go_modI, go_fdivI, go_powI, go_ltI, go_leI, go_gtI, go_geI, go_eqI, go_eqS, go_neI, go_neS, go_ixF, go_ixT, go_ixS, go_ixD, go_slT, go_slF, go_slR, go_slS, go_revF, go_revCF, go_revAT, go_revAL, List.getElem?_cons_zero, List.getElem?_cons_succ, List.set_cons_zero, List.set_cons_succ, List.length_cons, List.length_nil, D.int.injEq, D.bl.injEq, D.str.injEq, Option.some.injEq, exists_eq_left', go_listF, go_listT, go_tupleF, go_tupleT, go_lenF, go_lenT, go_lenS, go_isiS, go_isiI, go_intI, go_intB, go_maxI, it_lst, it_tupD, it_strD, en_lst, en_tup, fr_gN, wipeD, go_inTab, go_notInTab, go_tab, go_lc2, go_par2, go_par3, go_asg, go_isB, go_tell, go_kget, go_notB, go_slStep, go_slStepT, go_dictZip, go_setEq, go_ixL at3]
            have finC : ∀ (C : Cell) (d' : D), Pq (j + 1) (e0 + 1 + 3) d' → wX d' ≤ 2 * n + 300 → Go (Ly.finish M d' (M2 ++ [C])) Q := fun C d' p w =>
              go_fin_dz (N := [C]) hd (h2.push C) (frz_low (pq_low p)) fun M3 h3 => q d' M3 p w (h3.mono (by omega))
            have fin2 : ∀ (C : Cell) (ds' : List D), (∀ x ∈ ds', x ∈ L) → sX ds' ≤ 2 * sX L + 300 → Go (Ly.finish M (.tup ds') (M2 ++ [C])) Q := fun C ds' sub hs =>
              let ⟨p, w⟩ := tup_end hj v.all sub hw2 hs
              finC C _ p w
            have c3 := sX_cut (L.drop m) 2
            have e5 : (L.drop m).drop 2 = L.drop (m + 2) := by rw [List.drop_drop]
            rw [e5] at c3
            have rr : r = 0 ∨ r = 1 ∨ r = 2 ∨ r = 3 ∨ r = 4 := by omega
            rcases rr with rfl | rfl | rfl | rfl | rfl
            · refine ⟨_, rfl, fin2 _ _ (fun x hx => ?_) (by rw [sX_app]; show sX (L.take m) + sX (L.drop (m + 1)) ≤ _; omega)⟩
              rcases List.mem_append.mp hx with hx | hx
              · exact List.mem_of_mem_take hx
              · exact List.mem_of_mem_drop hx
            · refine ⟨_, rfl, fin2 _ _ (fun x hx => ?_) (by rw [sX_app]; omega)⟩
              rcases List.mem_append.mp hx with hx | hx
              · exact List.mem_of_mem_take hx
              · exact List.mem_of_mem_drop hx
            · exact ⟨_, rfl, fin2 _ _ (fun x hx => List.mem_reverse.mp hx) (by rw [sX_rev]; omega)⟩
            · refine ⟨_, rfl, finC _ _ (.lst (e := e0 + 3) fun x hx => (v.all x hx).mono (by omega) (by omega)) ?_⟩
              rw [qX_lst (by omega) v.all]
              omega
            · refine ⟨_, rfl, fin2 _ _ (fun x hx => ?_) (by rw [sX_app, sX_app, sX_rev]; show sX (L.take m) + sX ((L.drop m).take 2) + sX (L.drop (m + 2)) ≤ _; omega)⟩
              rcases List.mem_append.mp hx with hx | hx
              · rcases List.mem_append.mp hx with hx | hx
                · exact List.mem_of_mem_take hx
                · exact List.mem_of_mem_drop (List.mem_of_mem_take (List.mem_reverse.mp hx))
              · exact List.mem_of_mem_drop hx
        · rw [if_neg (by simpa using h11), go_next]
          exact tail
end K28
namespace Su
open PySem L2 Ly
def nrm : Sm → Nat
  | [] => 0
  | p :: s => p.2.natAbs + nrm s
theorem nrm_append : ∀ s t : Sm, nrm (s ++ t) = nrm s + nrm t
  | [], t => by show nrm t = 0 + nrm t; omega
  | p :: s, t => by
    show p.2.natAbs + nrm (s ++ t) = p.2.natAbs + nrm s + nrm t
    rw [nrm_append s t]
    omega
theorem nrm_perm {s t : Sm} (h : s.Perm t) : nrm s = nrm t := by
  induction h with
  | nil => rfl
  | cons p _ ih => show p.2.natAbs + _ = p.2.natAbs + _; rw [ih]
  | swap p q l => show q.2.natAbs + (p.2.natAbs + nrm l) = p.2.natAbs + (q.2.natAbs + nrm l); omega
  | trans _ _ h1 h2 => exact h1.trans h2
theorem nrm_mem : ∀ {s : Sm} {p : List Int × Int}, p ∈ s → p.2.natAbs ≤ nrm s
  | q :: s, p, h => by
    show _ ≤ q.2.natAbs + nrm s
    rcases List.mem_cons.mp h with rfl | h
    · omega
    · have := nrm_mem h
      omega
theorem nrm_filter (f : List Int × Int → Bool) : ∀ s : Sm, nrm (s.filter f) ≤ nrm s
  | [] => Nat.le_refl _
  | p :: s => by
    rw [List.filter_cons]
    have ih := nrm_filter f s
    split
    · show p.2.natAbs + _ ≤ p.2.natAbs + _
      omega
    · show _ ≤ p.2.natAbs + nrm s
      omega
theorem nrm_map {z : List Int} {m : Int} : ∀ {s : Sm}, (s.map (·.1)).Nodup → z ∈ s.map (·.1) → nrm (s.map fun p => if p.1 = z then (p.1, m) else p) + (get s z).natAbs = nrm s + m.natAbs
  | [], _, h => by cases h
  | p :: s, hn, h => by
    rw [List.map_cons, List.nodup_cons] at hn
    by_cases e : p.1 = z
    · have hz : z ∉ s.map (·.1) := e ▸ hn.1
      rw [List.map_cons, if_pos e, map_other hz]
      have g : get (p :: s) z = p.2 := by
        unfold get
        rw [List.find?_cons, decide_eq_true e]
      rw [g]
      show m.natAbs + nrm s + p.2.natAbs = p.2.natAbs + nrm s + m.natAbs
      omega
    · have hz : z ∈ s.map (·.1) := by
        rw [List.map_cons] at h
        rcases List.mem_cons.mp h with h | h
        · exact absurd h.symm e
        · exact h
      rw [List.map_cons, if_neg e]
      have g : get (p :: s) z = get s z := by
        unfold get
        rw [List.find?_cons, decide_eq_false e]
      rw [g]
      have ih := nrm_map (m := m) hn.2 hz
      show p.2.natAbs + nrm _ + _ = p.2.natAbs + nrm s + _
      omega
theorem nrm_put {s : Sm} {z : List Int} {n : Int} (hn : (s.map (·.1)).Nodup) : nrm (put s z (get s z + n)) ≤ nrm s + n.natAbs := by
  unfold put
  split
  · next h =>
    have := nrm_map (m := get s z + n) hn (any_iff.mp h)
    omega
  · next h =>
    have hz : z ∉ s.map (·.1) := fun e => h (any_iff.mpr e)
    rw [nrm_append, get_none hz]
    show nrm s + ((0 + n).natAbs + 0) ≤ _
    omega
theorem nrm_addS : ∀ (t s : Sm), (s.map (·.1)).Nodup → nrm (addS s t) ≤ nrm s + nrm t
  | [], s, _ => by show nrm s ≤ nrm s + 0; omega
  | p :: t, s, hn => by
    have ih := nrm_addS t (put s p.1 (get s p.1 + p.2)) (nodup_put hn)
    have h1 := nrm_put (z := p.1) (n := p.2) hn
    show nrm (addS (put s p.1 (get s p.1 + p.2)) t) ≤ nrm s + (p.2.natAbs + nrm t)
    omega
theorem nrm_mulP (p : List Int × Int) : ∀ t : Sm, nrm (mulP p t) = p.2.natAbs * nrm t
  | [] => by show 0 = _ * 0; omega
  | q :: t => by
    show (p.2 * q.2).natAbs + nrm (mulP p t) = p.2.natAbs * (q.2.natAbs + nrm t)
    rw [nrm_mulP p t, Int.natAbs_mul, Nat.mul_add]
theorem nodup_addS : ∀ (t s : Sm), (s.map (·.1)).Nodup → ((addS s t).map (·.1)).Nodup := fun t s h => (addS_ok [] (P := fun _ => True) t s h (fun _ _ => trivial) fun _ _ => trivial).1
theorem nrm_mulFrom (t : Sm) : ∀ (s acc : Sm), (acc.map (·.1)).Nodup → nrm (mulFrom acc s t) ≤ nrm acc + nrm s * nrm t
  | [], acc, _ => by show nrm acc ≤ nrm acc + 0 * _; omega
  | p :: s, acc, hn => by
    have ih := nrm_mulFrom t s (addS acc (mulP p t)) (nodup_addS _ _ hn)
    have h1 := nrm_addS (mulP p t) acc hn
    rw [nrm_mulP] at h1
    show nrm (mulFrom (addS acc (mulP p t)) s t) ≤ nrm acc + (p.2.natAbs + nrm s) * nrm t
    rw [Nat.add_mul]
    omega
theorem nrm_ptg {d : Sm} (hn : (d.map (·.1)).Nodup) : nrm (ptg d) ≤ nrm d := by
  unfold ptg
  refine Nat.le_trans (nrm_filter _ _) ?_
  rw [nrm_perm ((List.mergeSort_perm (d.map (·.1)) leZ).map fun z => (z, get d z)), get_self hn]
  exact Nat.le_refl _
theorem addS_nil : ∀ {t s : Sm}, ((s ++ t).map (·.1)).Nodup → addS s t = s ++ t
  | [], s, _ => by rw [List.append_nil]; rfl
  | p :: t, s, h => by
    have hn : p.1 ∉ s.map (·.1) := by
      rw [List.map_append, List.map_cons, List.nodup_append] at h
      intro hm
      exact h.2.2 _ hm _ (List.mem_cons_self ..) rfl
    have e : put s p.1 (get s p.1 + p.2) = s ++ [p] := by
      unfold put
      rw [if_neg (fun z => hn (any_iff.mp z)), get_none hn, Int.zero_add]
    show addS (put s p.1 (get s p.1 + p.2)) t = _
    rw [e, addS_nil (by rw [List.append_assoc]; exact h), List.append_assoc]
    rfl
theorem sorted_same {k : Nat} {t : Sm} (h : SumOk k t) : (t.map (·.1)).mergeSort leZ = t.map (·.1) := by
  apply List.mergeSort_of_pairwise
  rw [List.pairwise_map]
  exact h.rise.imp fun {a b} hab => by
    rw [lt_eq, decide_eq_true_eq] at hab
    rw [leZ_eq, decide_eq_true_eq]
    exact List.le_of_lt hab
theorem ptg_self {k : Nat} {t : Sm} (h : SumOk k t) : ptg t = t := by
  unfold ptg
  rw [sorted_same h, get_self h.nodup, List.filter_eq_self]
  intro p hp
  exact decide_eq_true (h.num p hp)
theorem added_nil {k : Nat} {t : Sm} (h : SumOk k t) : ptg (addS [] t) = t := by
  rw [addS_nil (by rw [List.nil_append]; exact h.nodup), List.nil_append, ptg_self h]
abbrev nul (p : List Int × Int) : List Int × Int := (p.1, 0)
theorem nrm_nul : ∀ s : Sm, nrm (s.map nul) = 0
  | [] => rfl
  | p :: s => by
    show (0 : Int).natAbs + nrm (s.map nul) = 0
    rw [nrm_nul s]
    rfl
theorem keys_nul (s : Sm) : (s.map nul).map (·.1) = s.map (·.1) := by
  rw [List.map_map]
  rfl
theorem less_self : ∀ (suf pre : Sm), ((pre ++ suf).map (·.1)).Nodup → addS (pre.map nul ++ suf) (sc (-1) suf) = (pre ++ suf).map nul
  | [], pre, _ => by rw [List.append_nil, List.append_nil]; rfl
  | p :: suf, pre, h => by
    have h' := h
    rw [List.map_append, List.map_cons, List.nodup_append, List.nodup_cons] at h
    have hpre : p.1 ∉ (pre.map nul).map (·.1) := by
      rw [keys_nul]
      intro hm
      exact h.2.2 _ hm _ (List.mem_cons_self ..) rfl
    have hsuf : p.1 ∉ suf.map (·.1) := h.2.1.1
    have g : get (pre.map nul ++ p :: suf) p.1 = p.2 := by
      unfold get
      rw [List.find?_append, List.find?_eq_none.mpr (fun q hq e => hpre (List.mem_map.mpr ⟨q, hq, of_decide_eq_true e⟩))]
      show (match (List.find? (fun q : List Int × Int => decide (q.1 = p.1)) (p :: suf)) with
        | some p => p.2
        | none => 0) = p.2
      rw [List.find?_cons, decide_eq_true rfl]
    have e : put (pre.map nul ++ p :: suf) p.1 (get (pre.map nul ++ p :: suf) p.1 + p.2 * -1) = (pre ++ [p]).map nul ++ suf := by
      rw [g, show p.2 + p.2 * -1 = 0 by omega]
      unfold put
      rw [if_pos (any_iff.mpr (by rw [List.map_append, List.map_cons]; simp)), List.map_append, List.map_cons, if_pos rfl, map_other hpre, map_other hsuf, List.map_append, List.append_assoc]
      rfl
    show addS (put (pre.map nul ++ p :: suf) p.1 (get (pre.map nul ++ p :: suf) p.1 + p.2 * -1)) (sc (-1) suf) = _
    rw [e, less_self suf (pre ++ [p]) (by rw [List.append_assoc]; exact h'), List.append_assoc]
    rfl
theorem lessened_self {k : Nat} {s : Sm} (h : SumOk k s) : ptg (addS s (sc (-1) s)) = [] := by
  have e : addS s (sc (-1) s) = s.map nul := less_self s [] (by rw [List.nil_append]; exact h.nodup)
  rw [e]
  have hn : ((s.map nul).map (·.1)).Nodup := by
    rw [keys_nul]
    exact h.nodup
  have h0 := nrm_ptg hn
  rw [nrm_nul] at h0
  cases hp : ptg (s.map nul) with
  | nil => rfl
  | cons p r =>
    have ok : SumOk k (ptg (s.map nul)) := ptg_ok hn fun w hw => h.rows w (by rw [keys_nul] at hw; exact hw)
    have hm : p ∈ ptg (s.map nul) := by rw [hp]; simp
    have := nrm_mem hm
    exact absurd (show p.2 = 0 by omega) (ok.num p hm)
end Su
namespace Su
open PySem L2 Ly
open Sk (wX sX sX_mem sX_len sX_app)
theorem addS_keys {P : List Int → Prop} (t s : Sm) (h1 : ∀ w ∈ s.map (·.1), P w) (h2 : ∀ p ∈ t, P p.1) : ∀ w ∈ (addS s t).map (·.1), P w := by
  induction t generalizing s with
  | nil => exact h1
  | cons p t ih =>
    show ∀ w ∈ (addS (put s p.1 (get s p.1 + p.2)) t).map (·.1), P w
    exact ih _ (fun w hw => (mem_keys_put hw).elim (h1 w) fun e => e ▸ h2 p (by simp)) fun q hq => h2 q (List.mem_cons_of_mem _ hq)
theorem mulFrom_keys {P : List Int → Prop} (t : Sm) : ∀ (s acc : Sm), (∀ w ∈ acc.map (·.1), P w) → (∀ p ∈ s, ∀ q ∈ t, P (zadd p.1 q.1)) → ∀ w ∈ (mulFrom acc s t).map (·.1), P w
  | [], acc, h, _ => h
  | p :: s, acc, h, h2 => by
    show ∀ w ∈ (mulFrom (addS acc (mulP p t)) s t).map (·.1), P w
    refine mulFrom_keys t s _ (addS_keys _ _ h fun q hq => ?_) fun q hq => h2 q (List.mem_cons_of_mem _ hq)
    obtain ⟨r, hr, rfl⟩ := List.mem_map.mp hq
    exact h2 p (by simp) r hr
theorem ptg_keys {P : List Int → Prop} {d : Sm} (h : ∀ w ∈ d.map (·.1), P w) : ∀ p ∈ ptg d, P p.1 := fun p hp => by
  obtain ⟨h1, _⟩ := List.mem_filter.mp hp
  obtain ⟨z, hz, rfl⟩ := List.mem_map.mp h1
  exact h _ ((List.mergeSort_perm _ _).mem_iff.mp hz)
theorem zadd_le {z w : List Int} {a b : Int} (h1 : ∀ i ∈ z, i ≤ a) (h2 : ∀ i ∈ w, i ≤ b) : ∀ i ∈ zadd z w, i ≤ a + b := by
  intro i hi
  obtain ⟨p, hp, rfl⟩ := List.mem_map.mp hi
  have x := h1 p.1 (List.of_mem_zip hp).1
  have y := h2 p.2 (List.of_mem_zip hp).2
  show p.1 + p.2 ≤ a + b
  omega
structure Mid (k : Nat) (s : Sm) : Prop where
  ok : SumOk k s
  ex : ∀ p ∈ s, ∀ i ∈ p.1, i ≤ 20
  nu : nrm s < 2 ^ 90
  ln : s.length ≤ 96
theorem Mid.siz {k : Nat} {s : Sm} {xs : List Int} (h : Mid k s) (hx : ∀ x ∈ xs, x.natAbs ≤ 2 ^ 10) : Siz s xs :=
  ⟨fun p hp i hi => by have := h.ex p hp i hi; omega, fun p hp => Nat.le_trans (nrm_mem hp) (Nat.le_trans (Nat.le_of_lt h.nu) (Nat.pow_le_pow_right (by decide) (by decide))), hx⟩
theorem pq_tz {j e : Nat} {z : List Int} (h : ∀ i ∈ z, 0 ≤ i ∧ i ≤ 20) : Pq j (e + 1) (tz z) := .tup fun d hd => by
  obtain ⟨i, hi, rfl⟩ := List.mem_map.mp hd
  exact .int (by have := h i hi; omega)
theorem Mid.pq {j k e : Nat} {s : Sm} (h : Mid k s) : Pq j (e + 3) (sD s) := .ftu fun d hd => by
  obtain ⟨p, hp, rfl⟩ := List.mem_map.mp hd
  refine .tup fun x hx => ?_
  rcases List.mem_cons.mp hx with rfl | hx
  · exact pq_tz fun i hi => ⟨(h.ok.row p hp).2 i hi, h.ex p hp i hi⟩
  · rw [List.mem_singleton.mp hx]
    refine .int (Nat.le_trans (Nat.le_of_lt (Nat.lt_of_le_of_lt (nrm_mem hp) h.nu)) (Nat.le_trans (show (2 : Nat) ^ 90 ≤ 10 ^ 40 by decide) (by omega)))
theorem wX_int {i : Int} {b : Nat} (h : i.natAbs < 2 ^ b) : wX (.int i) ≤ b := by
  show (if (i == 0) = true then 0 else i.natAbs.log2 + 1) ≤ b
  split
  · omega
  · next z =>
    have nz : i.natAbs ≠ 0 := by
      intro e
      have : i = 0 := by omega
      exact z (by rw [this]; rfl)
    have : i.natAbs.log2 < b := (Nat.log2_lt nz).mpr h
    omega
theorem sX_ints : ∀ {z : List Int}, (∀ i ∈ z, 0 ≤ i ∧ i ≤ 20) → sX (z.map D.int) ≤ 6 * z.length
  | [], _ => Nat.le_refl _
  | i :: z, h => by
    have ih := sX_ints (z := z) fun x hx => h x (List.mem_cons_of_mem _ hx)
    have hi := h i (by simp)
    have w := wX_int (i := i) (b := 5) (by omega)
    show wX (.int i) + 1 + sX (z.map D.int) ≤ 6 * (z.length + 1)
    omega
theorem Mid.wP {k : Nat} {s : Sm} (h : Mid k s) (hk : k ≤ 4) {p : List Int × Int} (hp : p ∈ s) : wX (tp p) ≤ 116 := by
  have r := h.ok.row p hp
  have a : ∀ i ∈ p.1, 0 ≤ i ∧ i ≤ 20 := fun i hi => ⟨r.2 i hi, h.ex p hp i hi⟩
  have e1 : wX (tz p.1) = sX (p.1.map D.int) := qX_tup (j := 0) (e := 0) (by decide) fun d hd => by
    obtain ⟨i, hi, rfl⟩ := List.mem_map.mp hd
    exact .int (by have := a i hi; omega)
  have nb := Nat.lt_of_le_of_lt (nrm_mem hp) h.nu
  have e2 : wX (tp p) = sX [tz p.1, .int p.2] := qX_tup (j := 0) (e := 1) (by decide) fun x hx => by
    rcases List.mem_cons.mp hx with rfl | hx
    · exact pq_tz a
    · rw [List.mem_singleton.mp hx]
      exact .int (Nat.le_trans (Nat.le_of_lt nb) (Nat.le_trans (show (2 : Nat) ^ 90 ≤ 10 ^ 40 by decide) (by omega)))
  have e3 : sX [tz p.1, D.int p.2] = wX (tz p.1) + 1 + (wX (.int p.2) + 1 + 0) := rfl
  have w1 := sX_ints a
  have w2 := wX_int nb
  rw [r.1] at w1
  omega
theorem sX_tp {k : Nat} {s : Sm} (h : ∀ p ∈ s, wX (tp p) ≤ k) : sX (s.map tp) ≤ (k + 1) * s.length := by
  induction s with
  | nil => exact Nat.le_refl _
  | cons p s ih =>
    have i := ih fun q hq => h q (List.mem_cons_of_mem _ hq)
    have w := h p (by simp)
    show wX (tp p) + 1 + sX (s.map tp) ≤ (k + 1) * (s.length + 1)
    rw [Nat.mul_succ]
    omega
theorem Mid.w {k : Nat} {s : Sm} (h : Mid k s) (hk : k ≤ 4) : wX (sD s) ≤ 117 * s.length := by
  have e : wX (sD s) = sX (s.map tp) := qX_ftu (j := 0) (e := 2) (by decide) fun d hd => by
    have := h.pq (j := 0) (e := 0)
    cases this with
    | ftu g => exact g d hd
  rw [e]
  exact sX_tp fun p hp => h.wP hk hp
end Su
namespace K28
open PySem PySem.Spec PyProof.Rows L2 Ly Su
theorem nrm_le {B : Nat} : ∀ {s : Sm}, (∀ p ∈ s, p.2.natAbs ≤ B) → nrm s ≤ B * s.length
  | [], _ => Nat.le_refl _
  | p :: s, h => by
    have ih := nrm_le fun q hq => h q (List.mem_cons_of_mem _ hq)
    have hp := h p (by simp)
    show p.2.natAbs + nrm s ≤ B * (s.length + 1)
    rw [Nat.mul_succ]
    omega
section
variable {k : Nat} {s t : Sm}
theorem SumQ.mid (h : SumQ k s) (hl : s.length ≤ 12) : Mid k s := by
  refine ⟨h.ok, fun p hp i hi => by have := h.ex p hp i hi; omega, ?_, by omega⟩
  have := nrm_le h.nu
  have e : (2 : Nat) ^ 90 = 1237940039285380274899124224 := by decide
  rw [e]
  omega
theorem add_mid (h : SumQ k s) (h' : SumQ k t) (hl : s.length ≤ 12) (hl' : t.length ≤ 12) : Mid k (ptg (addS s t)) := by
  obtain ⟨a1, a2, a3, a4⟩ := addS_ok [] (P := fun w => w.length = k ∧ ∀ i ∈ w, 0 ≤ i) t s h.ok.nodup h.ok.rows fun p hp => h'.ok.row p hp
  have b := addS_keys (P := fun w => ∀ i ∈ w, i ≤ 20) t s (fun w hw i hi => by
    obtain ⟨p, hp, rfl⟩ := List.mem_map.mp hw
    have := h.ex p hp i hi
    omega) fun p hp i hi => by have := h'.ex p hp i hi; omega
  refine ⟨ptg_ok a1 a2, ptg_keys (P := fun w => ∀ i ∈ w, i ≤ 20) b, ?_, Nat.le_trans ptg_len (by omega)⟩
  have n1 := nrm_ptg a1
  have n2 := nrm_addS t s h.ok.nodup
  have n3 := nrm_le h.nu
  have n4 := nrm_le h'.nu
  have e : (2 : Nat) ^ 90 = 1237940039285380274899124224 := by decide
  rw [e]
  omega
theorem SumQ.neg (h : SumQ k s) : SumQ k (sc (-1) s) := by
  refine ⟨sc_ok (by decide) h.ok, fun p hp => ?_, fun p hp => ?_⟩
  · obtain ⟨q, hq, rfl⟩ := List.mem_map.mp hp
    exact h.ex q hq
  · obtain ⟨q, hq, rfl⟩ := List.mem_map.mp hp
    have := h.nu q hq
    show (q.2 * -1).natAbs ≤ _
    omega
theorem mul_mid (h : SumQ k s) (h' : SumQ k t) (hl : s.length ≤ 8) (hl' : t.length ≤ 12) : Mid k (ptg (mulFrom [] s t)) := by
  obtain ⟨a1, a2, a3, a4⟩ := mulFrom_ok [] (k := k) h'.ok.row s [] h.ok.row List.nodup_nil (fun _ h => by cases h)
  have b := mulFrom_keys (P := fun w => ∀ i ∈ w, i ≤ 20) t s [] (fun _ h => by cases h) fun p hp q hq => by
    have := zadd_le (h.ex p hp) (h'.ex q hq)
    exact fun i hi => by have := this i hi; omega
  have ll : s.length * t.length ≤ 8 * 12 := Nat.mul_le_mul hl hl'
  refine ⟨ptg_ok a1 a2, ptg_keys (P := fun w => ∀ i ∈ w, i ≤ 20) b, ?_, Nat.le_trans ptg_len (Nat.le_trans a4 (by rw [List.length_nil]; omega))⟩
  have n1 := nrm_ptg a1
  have n2 := nrm_mulFrom t s [] List.nodup_nil
  have n3 : nrm s ≤ 1600000000000 := Nat.le_trans (nrm_le h.nu) (by omega)
  have n4 : nrm t ≤ 2400000000000 := Nat.le_trans (nrm_le h'.nu) (by omega)
  have n5 : nrm s * nrm t ≤ 1600000000000 * 2400000000000 := Nat.mul_le_mul n3 n4
  have n0 : nrm ([] : Sm) = 0 := rfl
  have e : (2 : Nat) ^ 90 = 1237940039285380274899124224 := by decide
  rw [e]
  omega
end
end K28
namespace Su
open PySem PySem.Spec PyProof.Rows L2 Ly
theorem pdInts : ∀ l : List Int, pdAll (l.map D.int) = some (l.map .int)
  | [] => rfl
  | x :: l => by
    show (pdOf (.int x)).bind (fun p => (pdAll (l.map D.int)).map fun ps => p :: ps) = _
    rw [pdInts l]
    rfl
theorem eqvInts : ∀ l : List Int, PyData.eqvAll (l.map .int) (l.map .int) = true
  | [] => rfl
  | x :: l => by
    show ((x == x) && PyData.eqvAll (l.map .int) (l.map .int)) = _
    rw [eqvInts l]
    simp
theorem layInts : ∀ l : List Int, PyData.canLayAll0 (l.map .int) = true
  | [] => rfl
  | x :: l => by
    show ((PyData.int x).canLay0 && PyData.canLayAll0 (l.map .int)) = _
    rw [layInts l]
    rfl
theorem depInts : ∀ l : List Int, PyData.depthAll (l.map .int) = 0
  | [] => rfl
  | x :: l => by
    show max 0 (PyData.depthAll (l.map .int)) = 0
    rw [depInts l]
    rfl
theorem ne_same {M : Mem} {d : D} {p : PyData} {Q : D → Mem → Prop} (hd : ∀ i, d ≠ .int i) (hs : ∀ x, d ≠ .str x) (hb : ∀ b, d ≠ .bl b) (h : pdM M d = some p) (sh : SeqAt.shaped p = true) (ev : PyData.eqv p p = true) (q : Q (.bl false) M) : Go (opNe d d M) Q := by
  have e0 : eqM M d d = some true := by
    unfold eqM
    rw [h]
    simp only [sh, Bool.and_self, if_true, ev]
  have e : opNe d d M = .ok (.bl false) M := by
    cases d <;> first | exact absurd rfl (hd _) | exact absurd rfl (hs _) | exact absurd rfl (hb _) | (unfold opNe; simp only [e0]; rfl)
  rw [e]
  exact q
theorem ne_ints {M : Mem} {l m : List Int} {Q : D → Mem → Prop} (h : l = m) (q : Q (.bl false) M) : Go (opNe (.lst (l.map .int)) (.lst (m.map .int)) M) Q := by
  subst h
  refine ne_same (p := .list (l.map .int)) (fun _ z => by cases z) (fun _ z => by cases z) (fun _ z => by cases z) ?_ ?_ (eqvInts l) q
  · show (pdAll (l.map D.int)).map PyData.list = _
    rw [pdInts]
    rfl
  · show (PyData.canLayAll0 (l.map .int) && decide (PyData.depthAll (l.map .int) + 1 ≤ 64)) = true
    rw [layInts, depInts]
    rfl
theorem pdSums : ∀ s : Sm, pdAll (s.map tp) = some (s.map encP)
  | [] => rfl
  | p :: s => by
    show (pdOf (tp p)).bind (fun q => (pdAll (s.map tp)).map fun ps => q :: ps) = _
    rw [pdSums s]
    have : pdOf (tp p) = some (encP p) := by
      show ((pdOf (tz p.1)).bind fun a => ((pdOf (.int p.2)).bind fun b => some [b]).map fun ps => a :: ps).map PyData.tuple = _
      have e : pdOf (tz p.1) = some (.tuple (p.1.map .int)) := by
        show (pdAll (p.1.map D.int)).map PyData.tuple = _
        rw [pdInts]
        rfl
      rw [e]
      rfl
    rw [this]
    rfl
theorem eqvP (p : List Int × Int) : PyData.eqv (encP p) (encP p) = true := by
  show (PyData.eqvAll (p.1.map .int) (p.1.map .int) && ((p.2 == p.2) && true)) = true
  rw [eqvInts]
  simp
theorem eqvSums : ∀ s : Sm, PyData.eqvAll (s.map encP) (s.map encP) = true
  | [] => rfl
  | p :: s => by
    show (PyData.eqv (encP p) (encP p) && PyData.eqvAll (s.map encP) (s.map encP)) = _
    rw [eqvSums s, eqvP]
    rfl
theorem laySums : ∀ s : Sm, PyData.canLayAll0 (s.map encP) = true
  | [] => rfl
  | p :: s => by
    show ((PyData.canLayAll0 (p.1.map .int) && true) && PyData.canLayAll0 (s.map encP)) = _
    rw [laySums s, layInts]
    rfl
theorem depSums : ∀ s : Sm, PyData.depthAll (s.map encP) ≤ 2
  | [] => Nat.zero_le _
  | p :: s => by
    show max (encP p).depth (PyData.depthAll (s.map encP)) ≤ 2
    rw [depth_P]
    exact Nat.max_le.mpr ⟨Nat.le_refl _, depSums s⟩
theorem ne_sums {M : Mem} {s : Sm} {Q : D → Mem → Prop} (q : Q (.bl false) M) : Go (opNe (sD s) (sD s) M) Q := by
  refine ne_same (p := .tuple (s.map encP)) (fun _ z => by cases z) (fun _ z => by cases z) (fun _ z => by cases z) ?_ ?_ (eqvSums s) q
  · show (pdAll (s.map tp)).map PyData.tuple = _
    rw [pdSums]
    rfl
  · show (PyData.canLayAll0 (s.map encP) && decide (PyData.depthAll (s.map encP) + 1 ≤ 64)) = true
    rw [laySums, decide_eq_true (by have := depSums s; omega)]
    rfl
end Su
namespace K28
open PySem PySem.Spec PyProof.Rows L2 Ly Su
open Sk (wX sX shX)
section
variable {b k : Nat} {T M : Mem} {Q : D → Mem → Prop} {s t : Sm}
def five (s t : Sm) : List Sm := [ptg (addS s t), ptg (addS s (sc (-1) t)), ptg (mulFrom [] s t), s, t]
theorem five_mid (h : SumQ k s) (h' : SumQ k t) (hl : s.length ≤ 8) (hl' : t.length ≤ 12) : ∀ u ∈ five s t, Mid k u := by
  intro u hu
  simp only [five, List.mem_cons, List.not_mem_nil, or_false] at hu
  rcases hu with rfl | rfl | rfl | rfl | rfl
  · exact add_mid h h' (by omega) hl'
  · exact add_mid h h'.neg (by omega) (by rw [sc_len]; exact hl')
  · exact mul_mid h h' hl hl'
  · exact h.mid (by omega)
  · exact h'.mid hl'
theorem five_wo (xs : Rw) (h : SumQ k s) (h' : SumQ k t) : (five s t).map (wo xs) = [wo xs s + wo xs t, wo xs s - wo xs t, wo xs s * wo xs t, wo xs s, wo xs t] := by
  obtain ⟨a1, _, a3, _⟩ := addS_ok xs (P := fun _ => True) t s h.ok.nodup (fun _ _ => trivial) fun _ _ => trivial
  obtain ⟨b1, _, b3, _⟩ := addS_ok xs (P := fun _ => True) (sc (-1) t) s h.ok.nodup (fun _ _ => trivial) fun _ _ => trivial
  obtain ⟨c1, _, c3, _⟩ := mulFrom_ok xs (k := k) h'.ok.row s [] h.ok.row List.nodup_nil (fun _ h => by cases h)
  show [_, _, _, _, _] = _
  rw [ptg_wo xs a1, ptg_wo xs b1, ptg_wo xs c1, a3, b3, c3, wo_sc]
  have e : wo xs ([] : Sm) = 0 := rfl
  rw [e, Int.zero_add, show wo xs s + wo xs t * -1 = wo xs s - wo xs t by omega]
theorem adj {α : Type} {R : α → α → Bool} : ∀ {l : List α}, l.Pairwise (fun a b => R a b = true) → ((l.zip (l.drop 1)).all fun p => R p.1 p.2) = true
  | [], _ => rfl
  | [_], _ => rfl
  | a :: c :: l, h => by
    obtain ⟨h1, h2⟩ := List.pairwise_cons.mp h
    show (R a c && ((c :: l).zip l).all fun p => R p.1 p.2) = true
    rw [h1 c (by simp), Bool.true_and]
    exact adj h2
theorem rowD_tp (p : Rw × Int) : rowD (tp p) = p.1 := by
  show (intsOf (p.1.map D.int)).getD [] = p.1
  rw [intsOf_map]
  rfl
theorem suB_sum (h : SumOk k s) : suB k (sD s) = true := by
  show ((s.map tp).all (paB k) && riB (s.map tp)) = true
  rw [Bool.and_eq_true]
  constructor
  · rw [List.all_eq_true]
    intro d hd
    obtain ⟨p, hp, rfl⟩ := List.mem_map.mp hd
    have r := h.row p hp
    show ((decide ((p.1.map D.int).length = k) && (p.1.map D.int).all nnB) && decide (p.2 ≠ 0)) = true
    rw [Bool.and_eq_true, Bool.and_eq_true]
    refine ⟨⟨decide_eq_true (by rw [List.length_map]; exact r.1), ?_⟩, decide_eq_true (h.num p hp)⟩
    rw [List.all_eq_true]
    intro x hx
    obtain ⟨i, hi, rfl⟩ := List.mem_map.mp hx
    exact decide_eq_true (r.2 i hi)
  · unfold riB
    refine adj (R := fun a c => ltInts (rowD a) (rowD c)) ?_
    rw [List.pairwise_map]
    exact h.rise.imp fun {a c} hac => by
      rw [rowD_tp, rowD_tp]
      exact hac
def RowN (k : Nat) (z : Rw) : Prop := z.length = k ∧ ∀ i ∈ z, i.natAbs ≤ 4
theorem nums_ok {env : Ly.Env} {Q : List D → Mem → Prop} (e6 : ∀ x, (env.set 11 x)[0]? = some (some (.ref 1))) (h : DzIs b T M) (hb : b ≤ 900000) (hk : k ≤ 4) (q : ∀ z M', RowN k z → DzIs (b + k) T M' → Q (z.map D.int) M') :
    Go (compL (gN 11) mYes (mBin opSub (mCall 2 Su.f__law_draw (mCons (mVar 0) (mCons (mC (D.int 9)) mNil))) (mC (D.int 4))) (fun _ => True) env ((List.range k).map fun i : Nat => D.int (0 + (i : Nat))) [] M) Q := by
  refine go_comp (fun rem acc M' => ∃ z : Rw, acc = z.map D.int ∧ (∀ i ∈ z, i.natAbs ≤ 4) ∧ z.length + rem.length = k ∧ DzIs (b + z.length) T M') ?_ ?_ _ _ _ ⟨[], rfl, (fun _ h => by cases h), by simp, h⟩
  · rintro d rem acc M' ⟨z, rfl, hz, hl, h1⟩
    rw [List.length_cons] at hl
    refine ⟨trivial, env.set 11 (some d), rfl, ?_⟩
    simp only [go_yes, if_true, go_call, go_cons, go_nil, go_var, e6, go_bin, go_c]
    refine ⟨rfl, draw_ok h1 (by omega) (by decide) (by decide) fun r M2 r0 r1 h2 => ?_⟩
    rw [go_subI]
    refine ⟨by rw [List.length_map]; omega, z ++ [r - 4], by rw [List.map_append]; rfl, fun i hi => ?_, by rw [List.length_append, List.length_singleton]; omega, h2.mono (by rw [List.length_append, List.length_singleton]; omega)⟩
    rcases List.mem_append.mp hi with hi | hi
    · exact hz i hi
    · rw [List.mem_singleton.mp hi]
      omega
  · rintro acc M' ⟨z, rfl, hz, hl, h1⟩
    rw [List.length_nil] at hl
    exact ⟨trivial, q z M' ⟨by omega, hz⟩ (h1.mono (by omega))⟩
end
end K28
namespace K28
open PySem PySem.Spec PyProof.Rows L2 Ly Su
open Sk (wX sX shX)
section
variable {b k : Nat} {T M : Mem} {Q : D → Mem → Prop} {s t : Sm}
theorem isum_ok {u : Sm} (h : Mid k u) (hk : k ≤ 4) (hl : u.length ≤ 96) (q : Q (.bl true) M) : Go (f_is_sum [.int (k : Nat), sD u] M) Q := by
  rw [e_is_sum]
  refine is_sum_ok (j := 0) (e := 3) (h.pq (e := 0)) (by decide) (Nat.le_trans (h.w hk) (by omega)) ?_
  rw [suB_sum h.ok]
  exact q
theorem lsum_ok {u : Sm} (h : Mid k u) (hk : k ≤ 4) (hl : u.length ≤ 96) (q : Q (.bl true) M) : Go (f__law_is_sum [.int (k : Nat), sD u] M) Q := by
  refine law_is_sum_ok (j := 0) (e := 3) (h.pq (e := 0)) (by decide) (Nat.le_trans (h.w hk) (by omega)) ?_
  rw [suB_sum h.ok]
  exact q
theorem lworth_ok {u : Sm} {z : Rw} (h : Mid k u) (hk : k ≤ 4) (hz : RowN k z) (q : Q (.int (wo z u)) M) : Go (f__law_worth [sD u, tz z] M) Q :=
  law_worth_ok (by rw [hz.1]; omega) (fun p hp => ⟨by rw [hz.1]; exact (h.ok.row p hp).1, (h.ok.row p hp).2⟩) (h.siz fun x hx => Nat.le_trans (hz.2 x hx) (by decide)) q
theorem pworth_ok {u : Sm} {z : Rw} (h : Mid k u) (hk : k ≤ 4) (hz : RowN k z) (q : Q (.int (wo z u)) M) : Go (f_worth_at [sD u, tz z] M) Q := by
  rw [e_worth]
  exact worth_at_ok (by rw [hz.1]; omega) (fun p hp => ⟨by rw [hz.1]; exact (h.ok.row p hp).1, (h.ok.row p hp).2⟩) (h.siz fun x hx => Nat.le_trans (hz.2 x hx) (by decide)) q
theorem padded_ok (h : SumQ k s) (h' : SumQ k t) (hl : s.length ≤ 8) (hl' : t.length ≤ 12) (q : Q (sD (ptg (addS s t))) M) : Go (f_added [sD s, sD t] M) Q := by
  rw [e_added]
  exact added_ok h.ok h'.ok (by omega) q
theorem plessened_ok (h : SumQ k s) (h' : SumQ k t) (hl : s.length ≤ 12) (hl' : t.length ≤ 12) (q : Q (sD (ptg (addS s (sc (-1) t)))) M) : Go (f_lessened [sD s, sD t] M) Q := by
  rw [e_lessened]
  refine lessened_ok h.ok h'.ok (fun p hp => ?_) (by omega) q
  exact Nat.lt_of_le_of_lt (h'.nu p hp) (by decide)
theorem ptimes_ok (h : SumQ k s) (h' : SumQ k t) (hk : k ≤ 4) (hl : s.length ≤ 8) (hl' : t.length ≤ 12) (q : Q (sD (ptg (mulFrom [] s t))) M) : Go (f_times [sD s, sD t] M) Q := by
  rw [e_times]
  have ll : s.length * t.length ≤ 8 * 12 := Nat.mul_le_mul hl hl'
  refine times_ok h.ok h'.ok (fun p hp r hr => ?_) (by omega) (by omega) q
  exact cmulW (Nat.lt_of_le_of_lt (h.nu p hp) (by decide)) (Nat.lt_of_le_of_lt (h'.nu r hr) (by decide))
end
end K28
namespace K28
open PySem PySem.Spec PyProof.Rows L2 Ly Su
open Sk (wX sX shX)
theorem mon_le : ∀ {z xs : Rw}, (∀ i ∈ z, i ≤ 20) → (∀ x ∈ xs, x.natAbs ≤ 4) → (mon z xs).natAbs ≤ 2 ^ (41 * z.length)
  | [], xs, _, _ => by
    have e : mon [] xs = 1 := by cases xs <;> rfl
    rw [e]
    decide
  | a :: z, [], _, _ => by
    show (1 : Int).natAbs ≤ _
    exact Nat.one_le_two_pow
  | a :: z, x :: xs, h, hx => by
    show (x ^ a.toNat * mon z xs).natAbs ≤ _
    rw [Int.natAbs_mul, List.length_cons, Nat.mul_succ, Nat.add_comm, Nat.pow_add]
    refine Nat.mul_le_mul (Nat.le_of_lt (pow_lt (b := 2) (hx x (by simp)) ?_)) (mon_le (fun i hi => h i (List.mem_cons_of_mem _ hi)) fun y hy => hx y (List.mem_cons_of_mem _ hy))
    have := h a (by simp)
    omega
theorem wo_le {xs : Rw} {B : Nat} : ∀ {s : Sm}, (∀ p ∈ s, (mon p.1 xs).natAbs ≤ B) → (wo xs s).natAbs ≤ nrm s * B
  | [], _ => by
    show (0 : Int).natAbs ≤ _
    exact Nat.zero_le _
  | p :: s, h => by
    have ih := wo_le (xs := xs) (s := s) fun q hq => h q (List.mem_cons_of_mem _ hq)
    have h0 := h p (by simp)
    have h1 := Nat.mul_le_mul_left p.2.natAbs h0
    show (p.2 * mon p.1 xs + wo xs s).natAbs ≤ (p.2.natAbs + nrm s) * B
    rw [Nat.add_mul]
    have h2 := Int.natAbs_add_le (p.2 * mon p.1 xs) (wo xs s)
    rw [Int.natAbs_mul] at h2
    omega
section
variable {b k : Nat} {T M : Mem} {Q : D → Mem → Prop} {s t : Sm}
theorem wo_lt {u : Sm} {z : Rw} (h : Mid k u) (hk : k ≤ 4) (hz : RowN k z) : (wo z u).natAbs < 2 ^ 255 := by
  have m : ∀ p ∈ u, (mon p.1 z).natAbs ≤ 2 ^ 164 := fun p hp => by
    refine Nat.le_trans (mon_le (h.ex p hp) hz.2) (Nat.pow_le_pow_right (by decide) ?_)
    rw [(h.ok.row p hp).1]
    omega
  have w := wo_le m
  refine Nat.lt_of_le_of_lt w ?_
  refine Nat.lt_of_lt_of_le (Nat.mul_lt_mul_of_pos_right h.nu (by decide)) ?_
  rw [← Nat.pow_add]
  exact Nat.pow_le_pow_right (by decide) (by decide)
theorem both_ok (h : DzIs b T M) (hb : b ≤ 800000) (hk : k ≤ 4) (hs : SumQ k s) (ht : SumQ k t) (hl : s.length ≤ 8) (hl' : t.length ≤ 12) (q : ∀ M', DzIs (b + 12) T M' → Q (.bl true) M') : Go (f__law_both_right [.ref 1, .int (k : Nat), sD s, sD t] M) Q := by
  have ms := hs.mid (by omega)
  have mt := ht.mid hl'
  have ptt : ∀ d ∈ [sD s, sD t], Pq 0 3 d := fun d hd => by
    rcases List.mem_cons.mp hd with rfl | hd
    · exact ms.pq (e := 0)
    · rw [List.mem_singleton.mp hd]
      exact mt.pq (e := 0)
  have wt : wX (.tup [sD s, sD t]) ≤ 16000 := by
    rw [qX_tup (j := 0) (e := 3) (by decide) ptt]
    show wX (sD s) + 1 + (wX (sD t) + 1 + 0) ≤ _
    have := ms.w hk
    have := mt.w hk
    omega
  have fm := five_mid hs ht hl hl'
  have p5 : ∀ d ∈ [sD (ptg (addS s t)), sD (ptg (addS s (sc (-1) t))), sD (ptg (mulFrom [] s t))], Pq 0 3 d := fun d hd => by
    simp only [List.mem_cons, List.not_mem_nil, or_false] at hd
    rcases hd with rfl | rfl | rfl
    · exact (fm _ (by simp [five])).pq (e := 0)
    · exact (fm _ (by simp [five])).pq (e := 0)
    · exact (fm _ (by simp [five])).pq (e := 0)
  have n1 : (ptg (addS s t)).length ≤ 20 := Nat.le_trans ptg_len (by
    have := (addS_ok [] (P := fun _ => True) t s hs.ok.nodup (fun _ _ => trivial) fun _ _ => trivial).2.2.2
    omega)
  have n2 : (ptg (addS s (sc (-1) t))).length ≤ 20 := Nat.le_trans ptg_len (by
    have := (addS_ok [] (P := fun _ => True) (sc (-1) t) s hs.ok.nodup (fun _ _ => trivial) fun _ _ => trivial).2.2.2
    rw [sc_len] at this
    omega)
  have w5 : wX (.lst [sD (ptg (addS s t)), sD (ptg (addS s (sc (-1) t))), sD (ptg (mulFrom [] s t))]) ≤ 16000 := by
    rw [qX_lst (j := 0) (e := 3) (by decide) p5]
    show wX (sD (ptg (addS s t))) + 1 + (wX (sD (ptg (addS s (sc (-1) t)))) + 1 + (wX (sD (ptg (mulFrom [] s t))) + 1 + 0)) ≤ _
    have a1 := fm (ptg (addS s t)) (by simp [five])
    have a2 := fm (ptg (addS s (sc (-1) t))) (by simp [five])
    have a3 := fm (ptg (mulFrom [] s t)) (by simp [five])
    have b1 := a1.w hk
    have b2 := a2.w hk
    have b3 := a3.w hk
    have c1 := a1.ln
    have c2 := a2.ln
    have c3 := a3.ln
    omega
  unfold f__law_both_right
  rw [go_callD]
  show GoS (m__law_both_right [some (.ref 1), some (.int (k : Nat)), some (sD s), some (sD t), none, none, none, none, none, none, none, none, none] M) _ _
  unfold m__law_both_right
  rw [e_draw, go_seq, go_set]
  simp only [go_bin, go_un, go_var, go_c, go_test, go_andT, go_orT, go_notT, go_yes, go_andV, go_if, go_nil, go_cons, go_tup, go_lst, go_lstC, go_cb, go_call, go_callW, go_meth, go_noPart, go_part, go_sl, go_get, go_retN, go_lc, go_dc, go_iter, go_enum, go_rng, go_rng1, go_rng2, go_rng3, go_disp, go_pnil, go_pcons, go_bdT, go_bdF, go_ok, go_nx, go_rt, go_addI, go_addS, go_addT, go_addL, go_subI, go_mulI, go_mulL, go_modI, go_fdivI, go_powI, go_ltI, go_leI, go_gtI, go_geI, go_eqI, go_eqS, go_neI, go_neS, go_ixF, go_ixT, go_ixS, go_ixD, go_slT, go_slF, go_slR, go_slS, go_revF, go_revCF, go_revAT, go_revAL, List.getElem?_cons_zero, List.getElem?_cons_succ, List.set_cons_zero, List.set_cons_succ, List.length_cons, List.length_nil, D.int.injEq, D.bl.injEq, D.str.injEq, Option.some.injEq, exists_eq_left', go_listF, go_listT, go_tupleF, go_tupleT, go_lenF, go_lenT, go_lenS, go_isiS, go_isiI, go_intI, go_intB, go_maxI, it_lst, it_tupD, it_strD, en_lst, en_tup, fr_gN, wipeD, go_inTab, go_notInTab, go_tab, go_lc2, go_par2, go_par3, go_asg, go_isB, go_tell, go_kget, go_notB, go_slStep, go_slStepT, go_dictZip, go_setEq, List.set_cons_zero, List.set_cons_succ]
  refine ⟨by decide, ?_⟩
  rw [go_shQ (.tup ptt) (by decide) (by decide) wt]
  generalize hK : shX (.tup [sD s, sD t]) = K
  have f5 : [sD (ptg (addS s t)), sD (ptg (addS s (sc (-1) t))), sD (ptg (mulFrom [] s t)), sD s, sD t] = (five s t).map Su.sD := rfl
  have l5 : ∀ u ∈ five s t, u.length ≤ 96 := fun u hu => (fm u hu).ln
  have e0 : ([] : List D) ++ ((five s t).filter fun _ => false).map Su.sD = ([] : List Int).map D.int := rfl
  rw [go_seq, go_for]
  simp only [go_bin, go_un, go_var, go_c, go_test, go_andT, go_orT, go_notT, go_yes, go_andV, go_if, go_nil, go_cons, go_tup, go_lst, go_lstC, go_cb, go_call, go_callW, go_meth, go_noPart, go_part, go_sl, go_get, go_retN, go_lc, go_dc, go_iter, go_enum, go_rng, go_rng1, go_rng2, go_rng3, go_disp, go_pnil, go_pcons, go_bdT, go_bdF, go_ok, go_nx, go_rt, go_addI, go_addS, go_addT, go_addL, go_subI, go_mulI, go_mulL, go_modI, go_fdivI, go_powI, go_ltI, go_leI, go_gtI, go_geI, go_eqI, go_eqS, go_neI, go_neS, go_ixF, go_ixT, go_ixS, go_ixD, go_slT, go_slF, go_slR, go_slS, go_revF, go_revCF, go_revAT, go_revAL, List.getElem?_cons_zero, List.getElem?_cons_succ, List.set_cons_zero, List.set_cons_succ, List.length_cons, List.length_nil, D.int.injEq, D.bl.injEq, D.str.injEq, Option.some.injEq, exists_eq_left', go_listF, go_listT, go_tupleF, go_tupleT, go_lenF, go_lenT, go_lenS, go_isiS, go_isiI, go_intI, go_intB, go_maxI, it_lst, it_tupD, it_strD, en_lst, en_tup, fr_gN, wipeD, go_inTab, go_notInTab, go_tab, go_lc2, go_par2, go_par3, go_asg, go_isB, go_tell, go_kget, go_notB, go_slStep, go_slStepT, go_dictZip, go_setEq]
  refine ⟨rngOk_of (by decide) (by decide), ?_⟩
  refine go_loop (fun rem env M' => rem.length ≤ 3 ∧ ∃ u5 u7 u8 u9 u10 : Option D, DzIs (b + 4 * (3 - rem.length)) T M' ∧ env = [some (.ref 1), some (.int (k : Nat)), some (sD s), some (sD t), some (.str K), u5, none, u7, u8, u9, u10, none, none] ∧ (rem.length = 3 ∨ u10 = some (.lst ((five s t).map Su.sD)))) ?_ ?_ _ _ _ ⟨Nat.le_refl 3, _, _, _, _, _, h.mono (Nat.le_refl _), rfl, .inl rfl⟩
  · rintro d rem env M' ⟨hr, u5, u7, u8, u9, u10, hd, rfl, -⟩
    rw [List.length_cons] at hr hd
    refine ⟨trivial, _, rfl, ?_⟩
    rw [go_seq, go_set]
    simp only [go_bin, go_un, go_var, go_c, go_test, go_andT, go_orT, go_notT, go_yes, go_andV, go_if, go_nil, go_cons, go_tup, go_lst, go_lstC, go_cb, go_call, go_callW, go_meth, go_noPart, go_part, go_sl, go_get, go_retN, go_lc, go_dc, go_iter, go_enum, go_rng, go_rng1, go_rng2, go_rng3, go_disp, go_pnil, go_pcons, go_bdT, go_bdF, go_ok, go_nx, go_rt, go_addI, go_addS, go_addT, go_addL, go_subI, go_mulI, go_mulL, go_modI, go_fdivI, go_powI, go_ltI, go_leI, go_gtI, go_geI, go_eqI, go_eqS, go_neI, go_neS, go_ixF, go_ixT, go_ixS, go_ixD, go_slT, go_slF, go_slR, go_slS, go_revF, go_revCF, go_revAT, go_revAL, List.getElem?_cons_zero, List.getElem?_cons_succ, List.set_cons_zero, List.set_cons_succ, List.length_cons, List.length_nil, D.int.injEq, D.bl.injEq, D.str.injEq, Option.some.injEq, exists_eq_left', go_listF, go_listT, go_tupleF, go_tupleT, go_lenF, go_lenT, go_lenS, go_isiS, go_isiI, go_intI, go_intB, go_maxI, it_lst, it_tupD, it_strD, en_lst, en_tup, fr_gN, wipeD, go_inTab, go_notInTab, go_tab, go_lc2, go_par2, go_par3, go_asg, go_isB, go_tell, go_kget, go_notB, go_slStep, go_slStepT, go_dictZip, go_setEq, List.set_cons_zero, List.set_cons_succ]
    refine ⟨by unfold rngOk; omega, ?_⟩
    rw [Int.toNat_natCast]
    refine nums_ok (fun _ => rfl) hd (by omega) hk fun z M1 hz h1 => ?_
    have w5 := five_wo z hs ht
    have ws := wo_lt ms hk hz
    have wt := wo_lt mt hk hz
    rw [go_seq, go_par2]
    simp only [go_bin, go_un, go_var, go_c, go_test, go_andT, go_orT, go_notT, go_yes, go_andV, go_if, go_nil, go_cons, go_tup, go_lst, go_lstC, go_cb, go_call, go_callW, go_meth, go_noPart, go_part, go_sl, go_get, go_retN, go_lc, go_dc, go_iter, go_enum, go_rng, go_rng1, go_rng2, go_rng3, go_disp, go_pnil, go_pcons, go_bdT, go_bdF, go_ok, go_nx, go_rt, go_addI, go_addS, go_addT, go_addL, go_subI, go_mulI, go_mulL, go_modI, go_fdivI, go_powI, go_ltI, go_leI, go_gtI, go_geI, go_eqI, go_eqS, go_neI, go_neS, go_ixF, go_ixT, go_ixS, go_ixD, go_slT, go_slF, go_slR, go_slS, go_revF, go_revCF, go_revAT, go_revAL, List.getElem?_cons_zero, List.getElem?_cons_succ, List.set_cons_zero, List.set_cons_succ, List.length_cons, List.length_nil, D.int.injEq, D.bl.injEq, D.str.injEq, Option.some.injEq, exists_eq_left', go_listF, go_listT, go_tupleF, go_tupleT, go_lenF, go_lenT, go_lenS, go_isiS, go_isiI, go_intI, go_intB, go_maxI, it_lst, it_tupD, it_strD, en_lst, en_tup, fr_gN, wipeD, go_inTab, go_notInTab, go_tab, go_lc2, go_par2, go_par3, go_asg, go_isB, go_tell, go_kget, go_notB, go_slStep, go_slStepT, go_dictZip, go_setEq, List.set_cons_zero, List.set_cons_succ, true_and]
    refine lworth_ok ms hk hz ?_
    refine lworth_ok mt hk hz ?_
    refine ⟨_, _, rfl, ?_⟩
    rw [go_seq, go_set]
    simp only [go_bin, go_un, go_var, go_c, go_test, go_andT, go_orT, go_notT, go_yes, go_andV, go_if, go_nil, go_cons, go_tup, go_lst, go_lstC, go_cb, go_call, go_callW, go_meth, go_noPart, go_part, go_sl, go_get, go_retN, go_lc, go_dc, go_iter, go_enum, go_rng, go_rng1, go_rng2, go_rng3, go_disp, go_pnil, go_pcons, go_bdT, go_bdF, go_ok, go_nx, go_rt, go_addI, go_addS, go_addT, go_addL, go_subI, go_mulI, go_mulL, go_modI, go_fdivI, go_powI, go_ltI, go_leI, go_gtI, go_geI, go_eqI, go_eqS, go_neI, go_neS, go_ixF, go_ixT, go_ixS, go_ixD, go_slT, go_slF, go_slR, go_slS, go_revF, go_revCF, go_revAT, go_revAL, List.getElem?_cons_zero, List.getElem?_cons_succ, List.set_cons_zero, List.set_cons_succ, List.length_cons, List.length_nil, D.int.injEq, D.bl.injEq, D.str.injEq, Option.some.injEq, exists_eq_left', go_listF, go_listT, go_tupleF, go_tupleT, go_lenF, go_lenT, go_lenS, go_isiS, go_isiI, go_intI, go_intB, go_maxI, it_lst, it_tupD, it_strD, en_lst, en_tup, fr_gN, wipeD, go_inTab, go_notInTab, go_tab, go_lc2, go_par2, go_par3, go_asg, go_isB, go_tell, go_kget, go_notB, go_slStep, go_slStepT, go_dictZip, go_setEq, List.set_cons_zero, List.set_cons_succ, true_and]
    refine padded_ok hs ht hl hl' ?_
    refine plessened_ok hs ht (by omega) hl' ?_
    refine ptimes_ok hs ht hk hl hl' ?_
    refine ⟨by decide, ?_⟩
    rw [f5, go_seq, go_ifS]
    simp only [go_bin, go_un, go_var, go_c, go_test, go_andT, go_orT, go_notT, go_yes, go_andV, go_if, go_nil, go_cons, go_tup, go_lst, go_lstC, go_cb, go_call, go_callW, go_meth, go_noPart, go_part, go_sl, go_get, go_retN, go_lc, go_dc, go_iter, go_enum, go_rng, go_rng1, go_rng2, go_rng3, go_disp, go_pnil, go_pcons, go_bdT, go_bdF, go_ok, go_nx, go_rt, go_addI, go_addS, go_addT, go_addL, go_subI, go_mulI, go_mulL, go_modI, go_fdivI, go_powI, go_ltI, go_leI, go_gtI, go_geI, go_eqI, go_eqS, go_neI, go_neS, go_ixF, go_ixT, go_ixS, go_ixD, go_slT, go_slF, go_slR, go_slS, go_revF, go_revCF, go_revAT, go_revAL, List.getElem?_cons_zero, List.getElem?_cons_succ, List.set_cons_zero, List.set_cons_succ, List.length_cons, List.length_nil, D.int.injEq, D.bl.injEq, D.str.injEq, Option.some.injEq, exists_eq_left', go_listF, go_listT, go_tupleF, go_tupleT, go_lenF, go_lenT, go_lenS, go_isiS, go_isiI, go_intI, go_intB, go_maxI, it_lst, it_tupD, it_strD, en_lst, en_tup, fr_gN, wipeD, go_inTab, go_notInTab, go_tab, go_lc2, go_par2, go_par3, go_asg, go_isB, go_tell, go_kget, go_notB, go_slStep, go_slStepT, go_dictZip, go_setEq, true_and]
    refine cp_filter (f := Su.sD) (h := Su.sD) (p := fun _ => false) trivial (five s t) [] (Nat.le_of_ble_eq_true rfl) (fun u hu => ⟨_, rfl, fun K hK => ?_, fun K hK => ?_⟩) ?_
    · simp only [go_bin, go_un, go_var, go_c, go_test, go_andT, go_orT, go_notT, go_yes, go_andV, go_if, go_nil, go_cons, go_tup, go_lst, go_lstC, go_cb, go_call, go_callW, go_meth, go_noPart, go_part, go_sl, go_get, go_retN, go_lc, go_dc, go_iter, go_enum, go_rng, go_rng1, go_rng2, go_rng3, go_disp, go_pnil, go_pcons, go_bdT, go_bdF, go_ok, go_nx, go_rt, go_addI, go_addS, go_addT, go_addL, go_subI, go_mulI, go_mulL, go_modI, go_fdivI, go_powI, go_ltI, go_leI, go_gtI, go_geI, go_eqI, go_eqS, go_neI, go_neS, go_ixF, go_ixT, go_ixS, go_ixD, go_slT, go_slF, go_slR, go_slS, go_revF, go_revCF, go_revAT, go_revAL, List.getElem?_cons_zero, List.getElem?_cons_succ, List.set_cons_zero, List.set_cons_succ, List.length_cons, List.length_nil, D.int.injEq, D.bl.injEq, D.str.injEq, Option.some.injEq, exists_eq_left', go_listF, go_listT, go_tupleF, go_tupleT, go_lenF, go_lenT, go_lenS, go_isiS, go_isiI, go_intI, go_intB, go_maxI, it_lst, it_tupD, it_strD, en_lst, en_tup, fr_gN, wipeD, go_inTab, go_notInTab, go_tab, go_lc2, go_par2, go_par3, go_asg, go_isB, go_tell, go_kget, go_notB, go_slStep, go_slStepT, go_dictZip, go_setEq, List.set_cons_zero, List.set_cons_succ, true_and]
      refine lsum_ok (fm u hu) hk (l5 u hu) ?_
      refine ⟨_, rfl, ?_⟩
      rw [if_neg (by decide)]
      refine isum_ok (fm u hu) hk (l5 u hu) ?_
      simp only [go_bin, go_un, go_var, go_c, go_test, go_andT, go_orT, go_notT, go_yes, go_andV, go_if, go_nil, go_cons, go_tup, go_lst, go_lstC, go_cb, go_call, go_callW, go_meth, go_noPart, go_part, go_sl, go_get, go_retN, go_lc, go_dc, go_iter, go_enum, go_rng, go_rng1, go_rng2, go_rng3, go_disp, go_pnil, go_pcons, go_bdT, go_bdF, go_ok, go_nx, go_rt, go_addI, go_addS, go_addT, go_addL, go_subI, go_mulI, go_mulL, go_modI, go_fdivI, go_powI, go_ltI, go_leI, go_gtI, go_geI, go_eqI, go_eqS, go_neI, go_neS, go_ixF, go_ixT, go_ixS, go_ixD, go_slT, go_slF, go_slR, go_slS, go_revF, go_revCF, go_revAT, go_revAL, List.getElem?_cons_zero, List.getElem?_cons_succ, List.set_cons_zero, List.set_cons_succ, List.length_cons, List.length_nil, D.int.injEq, D.bl.injEq, D.str.injEq, Option.some.injEq, exists_eq_left', go_listF, go_listT, go_tupleF, go_tupleT, go_lenF, go_lenT, go_lenS, go_isiS, go_isiI, go_intI, go_intB, go_maxI, it_lst, it_tupD, it_strD, en_lst, en_tup, fr_gN, wipeD, go_inTab, go_notInTab, go_tab, go_lc2, go_par2, go_par3, go_asg, go_isB, go_tell, go_kget, go_notB, go_slStep, go_slStepT, go_dictZip, go_setEq]
      exact hK
    · simp only [go_bin, go_un, go_var, go_c, go_test, go_andT, go_orT, go_notT, go_yes, go_andV, go_if, go_nil, go_cons, go_tup, go_lst, go_lstC, go_cb, go_call, go_callW, go_meth, go_noPart, go_part, go_sl, go_get, go_retN, go_lc, go_dc, go_iter, go_enum, go_rng, go_rng1, go_rng2, go_rng3, go_disp, go_pnil, go_pcons, go_bdT, go_bdF, go_ok, go_nx, go_rt, go_addI, go_addS, go_addT, go_addL, go_subI, go_mulI, go_mulL, go_modI, go_fdivI, go_powI, go_ltI, go_leI, go_gtI, go_geI, go_eqI, go_eqS, go_neI, go_neS, go_ixF, go_ixT, go_ixS, go_ixD, go_slT, go_slF, go_slR, go_slS, go_revF, go_revCF, go_revAT, go_revAL, List.getElem?_cons_zero, List.getElem?_cons_succ, List.set_cons_zero, List.set_cons_succ, List.length_cons, List.length_nil, D.int.injEq, D.bl.injEq, D.str.injEq, Option.some.injEq, exists_eq_left', go_listF, go_listT, go_tupleF, go_tupleT, go_lenF, go_lenT, go_lenS, go_isiS, go_isiI, go_intI, go_intB, go_maxI, it_lst, it_tupD, it_strD, en_lst, en_tup, fr_gN, wipeD, go_inTab, go_notInTab, go_tab, go_lc2, go_par2, go_par3, go_asg, go_isB, go_tell, go_kget, go_notB, go_slStep, go_slStepT, go_dictZip, go_setEq, List.set_cons_zero, List.set_cons_succ]
      exact hK
    rw [e0]
    refine ⟨by decide, ne_ints (l := []) (m := []) rfl ⟨_, rfl, ?_⟩⟩
    rw [if_neg (by decide), go_next, go_seq, go_ifS]
    simp only [go_bin, go_un, go_var, go_c, go_test, go_andT, go_orT, go_notT, go_yes, go_andV, go_if, go_nil, go_cons, go_tup, go_lst, go_lstC, go_cb, go_call, go_callW, go_meth, go_noPart, go_part, go_sl, go_get, go_retN, go_lc, go_dc, go_iter, go_enum, go_rng, go_rng1, go_rng2, go_rng3, go_disp, go_pnil, go_pcons, go_bdT, go_bdF, go_ok, go_nx, go_rt, go_addI, go_addS, go_addT, go_addL, go_subI, go_mulI, go_mulL, go_modI, go_fdivI, go_powI, go_ltI, go_leI, go_gtI, go_geI, go_eqI, go_eqS, go_neI, go_neS, go_ixF, go_ixT, go_ixS, go_ixD, go_slT, go_slF, go_slR, go_slS, go_revF, go_revCF, go_revAT, go_revAL, List.getElem?_cons_zero, List.getElem?_cons_succ, List.set_cons_zero, List.set_cons_succ, List.length_cons, List.length_nil, D.int.injEq, D.bl.injEq, D.str.injEq, Option.some.injEq, exists_eq_left', go_listF, go_listT, go_tupleF, go_tupleT, go_lenF, go_lenT, go_lenS, go_isiS, go_isiI, go_intI, go_intB, go_maxI, it_lst, it_tupD, it_strD, en_lst, en_tup, fr_gN, wipeD, go_inTab, go_notInTab, go_tab, go_lc2, go_par2, go_par3, go_asg, go_isB, go_tell, go_kget, go_notB, go_slStep, go_slStepT, go_dictZip, go_setEq, true_and]
    refine cp_pure (f := Su.sD) (h := fun u => D.int (wo z u)) trivial (five s t) [] (Nat.le_of_ble_eq_true rfl) (fun u hu => ⟨_, rfl, fun K hK => ?_⟩) ?_
    · simp only [go_bin, go_un, go_var, go_c, go_test, go_andT, go_orT, go_notT, go_yes, go_andV, go_if, go_nil, go_cons, go_tup, go_lst, go_lstC, go_cb, go_call, go_callW, go_meth, go_noPart, go_part, go_sl, go_get, go_retN, go_lc, go_dc, go_iter, go_enum, go_rng, go_rng1, go_rng2, go_rng3, go_disp, go_pnil, go_pcons, go_bdT, go_bdF, go_ok, go_nx, go_rt, go_addI, go_addS, go_addT, go_addL, go_subI, go_mulI, go_mulL, go_modI, go_fdivI, go_powI, go_ltI, go_leI, go_gtI, go_geI, go_eqI, go_eqS, go_neI, go_neS, go_ixF, go_ixT, go_ixS, go_ixD, go_slT, go_slF, go_slR, go_slS, go_revF, go_revCF, go_revAT, go_revAL, List.getElem?_cons_zero, List.getElem?_cons_succ, List.set_cons_zero, List.set_cons_succ, List.length_cons, List.length_nil, D.int.injEq, D.bl.injEq, D.str.injEq, Option.some.injEq, exists_eq_left', go_listF, go_listT, go_tupleF, go_tupleT, go_lenF, go_lenT, go_lenS, go_isiS, go_isiI, go_intI, go_intB, go_maxI, it_lst, it_tupD, it_strD, en_lst, en_tup, fr_gN, wipeD, go_inTab, go_notInTab, go_tab, go_lc2, go_par2, go_par3, go_asg, go_isB, go_tell, go_kget, go_notB, go_slStep, go_slStepT, go_dictZip, go_setEq, List.set_cons_zero, List.set_cons_succ, true_and]
      exact lworth_ok (fm u hu) hk hz hK
    have e1 : ([] : List D) ++ (five s t).map (fun u => D.int (wo z u)) = ((five s t).map (wo z)).map D.int := by
      rw [List.nil_append, List.map_map]
      rfl
    have cm : CMulW (wo z s) (wo z t) := cmulB (a := 255) (b := 255) ws wt (by decide)
    rw [e1, go_mulUI, go_mulI]
    refine ⟨cm, by decide, ?_⟩
    refine ne_ints (m := [wo z s + wo z t, wo z s - wo z t, wo z s * wo z t, wo z s, wo z t]) w5 ⟨_, rfl, ?_⟩
    rw [if_neg (by decide), go_next, go_ifS]
    simp only [go_bin, go_un, go_var, go_c, go_test, go_andT, go_orT, go_notT, go_yes, go_andV, go_if, go_nil, go_cons, go_tup, go_lst, go_lstC, go_cb, go_call, go_callW, go_meth, go_noPart, go_part, go_sl, go_get, go_retN, go_lc, go_dc, go_iter, go_enum, go_rng, go_rng1, go_rng2, go_rng3, go_disp, go_pnil, go_pcons, go_bdT, go_bdF, go_ok, go_nx, go_rt, go_addI, go_addS, go_addT, go_addL, go_subI, go_mulI, go_mulL, go_modI, go_fdivI, go_powI, go_ltI, go_leI, go_gtI, go_geI, go_eqI, go_eqS, go_neI, go_neS, go_ixF, go_ixT, go_ixS, go_ixD, go_slT, go_slF, go_slR, go_slS, go_revF, go_revCF, go_revAT, go_revAL, List.getElem?_cons_zero, List.getElem?_cons_succ, List.set_cons_zero, List.set_cons_succ, List.length_cons, List.length_nil, D.int.injEq, D.bl.injEq, D.str.injEq, Option.some.injEq, exists_eq_left', go_listF, go_listT, go_tupleF, go_tupleT, go_lenF, go_lenT, go_lenS, go_isiS, go_isiI, go_intI, go_intB, go_maxI, it_lst, it_tupD, it_strD, en_lst, en_tup, fr_gN, wipeD, go_inTab, go_notInTab, go_tab, go_lc2, go_par2, go_par3, go_asg, go_isB, go_tell, go_kget, go_notB, go_slStep, go_slStepT, go_dictZip, go_setEq, true_and]
    refine cp_pure (f := Su.sD) (h := fun u => D.int (wo z u)) trivial (five s t) [] (Nat.le_of_ble_eq_true rfl) (fun u hu => ⟨_, rfl, fun K hK => ?_⟩) ?_
    · simp only [go_bin, go_un, go_var, go_c, go_test, go_andT, go_orT, go_notT, go_yes, go_andV, go_if, go_nil, go_cons, go_tup, go_lst, go_lstC, go_cb, go_call, go_callW, go_meth, go_noPart, go_part, go_sl, go_get, go_retN, go_lc, go_dc, go_iter, go_enum, go_rng, go_rng1, go_rng2, go_rng3, go_disp, go_pnil, go_pcons, go_bdT, go_bdF, go_ok, go_nx, go_rt, go_addI, go_addS, go_addT, go_addL, go_subI, go_mulI, go_mulL, go_modI, go_fdivI, go_powI, go_ltI, go_leI, go_gtI, go_geI, go_eqI, go_eqS, go_neI, go_neS, go_ixF, go_ixT, go_ixS, go_ixD, go_slT, go_slF, go_slR, go_slS, go_revF, go_revCF, go_revAT, go_revAL, List.getElem?_cons_zero, List.getElem?_cons_succ, List.set_cons_zero, List.set_cons_succ, List.length_cons, List.length_nil, D.int.injEq, D.bl.injEq, D.str.injEq, Option.some.injEq, exists_eq_left', go_listF, go_listT, go_tupleF, go_tupleT, go_lenF, go_lenT, go_lenS, go_isiS, go_isiI, go_intI, go_intB, go_maxI, it_lst, it_tupD, it_strD, en_lst, en_tup, fr_gN, wipeD, go_inTab, go_notInTab, go_tab, go_lc2, go_par2, go_par3, go_asg, go_isB, go_tell, go_kget, go_notB, go_slStep, go_slStepT, go_dictZip, go_setEq, List.set_cons_zero, List.set_cons_succ, true_and]
      exact pworth_ok (fm u hu) hk hz hK
    rw [e1, go_mulUI, go_mulI]
    refine ⟨cm, by decide, ?_⟩
    refine ne_ints (m := [wo z s + wo z t, wo z s - wo z t, wo z s * wo z t, wo z s, wo z t]) w5 ⟨_, rfl, ?_⟩
    rw [if_neg (by decide), go_next]
    exact ⟨by omega, _, _, _, _, _, h1.mono (by omega), rfl, .inr rfl⟩
  · rintro env M' ⟨-, u5, u7, u8, u9, u10, hd, rfl, hu⟩
    obtain hu | rfl := hu
    · cases hu
    refine ⟨trivial, ?_⟩
    rw [go_seq, go_set]
    simp only [go_bin, go_un, go_var, go_c, go_test, go_andT, go_orT, go_notT, go_yes, go_andV, go_if, go_nil, go_cons, go_tup, go_lst, go_lstC, go_cb, go_call, go_callW, go_meth, go_noPart, go_part, go_sl, go_get, go_retN, go_lc, go_dc, go_iter, go_enum, go_rng, go_rng1, go_rng2, go_rng3, go_disp, go_pnil, go_pcons, go_bdT, go_bdF, go_ok, go_nx, go_rt, go_addI, go_addS, go_addT, go_addL, go_subI, go_mulI, go_mulL, go_modI, go_fdivI, go_powI, go_ltI, go_leI, go_gtI, go_geI, go_eqI, go_eqS, go_neI, go_neS, go_ixF, go_ixT, go_ixS, go_ixD, go_slT, go_slF, go_slR, go_slS, go_revF, go_revCF, go_revAT, go_revAL, List.getElem?_cons_zero, List.getElem?_cons_succ, List.set_cons_zero, List.set_cons_succ, List.length_cons, List.length_nil, D.int.injEq, D.bl.injEq, D.str.injEq, Option.some.injEq, exists_eq_left', go_listF, go_listT, go_tupleF, go_tupleT, go_lenF, go_lenT, go_lenS, go_isiS, go_isiI, go_intI, go_intB, go_maxI, it_lst, it_tupD, it_strD, en_lst, en_tup, fr_gN, wipeD, go_inTab, go_notInTab, go_tab, go_lc2, go_par2, go_par3, go_asg, go_isB, go_tell, go_kget, go_notB, go_slStep, go_slStepT, go_dictZip, go_setEq, List.set_cons_zero, List.set_cons_succ, true_and]
    refine padded_ok hs ht hl hl' ?_
    refine plessened_ok hs ht (by omega) hl' ?_
    refine ptimes_ok hs ht hk hl hl' ?_
    refine ⟨by decide, ?_⟩
    rw [go_seq, go_ifS]
    simp only [go_bin, go_un, go_var, go_c, go_test, go_andT, go_orT, go_notT, go_yes, go_andV, go_if, go_nil, go_cons, go_tup, go_lst, go_lstC, go_cb, go_call, go_callW, go_meth, go_noPart, go_part, go_sl, go_get, go_retN, go_lc, go_dc, go_iter, go_enum, go_rng, go_rng1, go_rng2, go_rng3, go_disp, go_pnil, go_pcons, go_bdT, go_bdF, go_ok, go_nx, go_rt, go_addI, go_addS, go_addT, go_addL, go_subI, go_mulI, go_mulL, go_modI, go_fdivI, go_powI, go_ltI, go_leI, go_gtI, go_geI, go_eqI, go_eqS, go_neI, go_neS, go_ixF, go_ixT, go_ixS, go_ixD, go_slT, go_slF, go_slR, go_slS, go_revF, go_revCF, go_revAT, go_revAL, List.getElem?_cons_zero, List.getElem?_cons_succ, List.set_cons_zero, List.set_cons_succ, List.length_cons, List.length_nil, D.int.injEq, D.bl.injEq, D.str.injEq, Option.some.injEq, exists_eq_left', go_listF, go_listT, go_tupleF, go_tupleT, go_lenF, go_lenT, go_lenS, go_isiS, go_isiI, go_intI, go_intB, go_maxI, it_lst, it_tupD, it_strD, en_lst, en_tup, fr_gN, wipeD, go_inTab, go_notInTab, go_tab, go_lc2, go_par2, go_par3, go_asg, go_isB, go_tell, go_kget, go_notB, go_slStep, go_slStepT, go_dictZip, go_setEq, true_and]
    rw [go_shQ (.lst p5) (by decide) (by decide) w5]
    have c5 : Ly.cutD ((five s t).map Su.sD) none (some 3) = [Su.sD (ptg (addS s t)), Su.sD (ptg (addS s (sc (-1) t))), Su.sD (ptg (mulFrom [] s t))] := rfl
    rw [c5, go_shQ (.lst p5) (by decide) (by decide) w5, go_neS, decide_eq_true rfl]
    refine ⟨_, rfl, ?_⟩
    rw [if_neg (by decide)]
    have qs : SumQ k [] := ⟨⟨(by simp), (by simp), List.Pairwise.nil⟩, (by simp), (by simp)⟩
    have nn : opNeE (Su.sD []) (.tup []) M' = .ok (.bl false) M' := ne_any (d := .ftu []) (ds := []) rfl M'
    refine plessened_ok hs hs (by omega) (by omega) ?_
    rw [lessened_self hs.ok, nn, go_ok]
    refine ⟨by decide, _, rfl, ?_⟩
    rw [if_neg (by decide), go_tupF]
    simp only [go_bin, go_un, go_var, go_c, go_test, go_andT, go_orT, go_notT, go_yes, go_andV, go_if, go_nil, go_cons, go_tup, go_lst, go_lstC, go_cb, go_call, go_callW, go_meth, go_noPart, go_part, go_sl, go_get, go_retN, go_lc, go_dc, go_iter, go_enum, go_rng, go_rng1, go_rng2, go_rng3, go_disp, go_pnil, go_pcons, go_bdT, go_bdF, go_ok, go_nx, go_rt, go_addI, go_addS, go_addT, go_addL, go_subI, go_mulI, go_mulL, go_modI, go_fdivI, go_powI, go_ltI, go_leI, go_gtI, go_geI, go_eqI, go_eqS, go_neI, go_neS, go_ixF, go_ixT, go_ixS, go_ixD, go_slT, go_slF, go_slR, go_slS, go_revF, go_revCF, go_revAT, go_revAL, List.getElem?_cons_zero, List.getElem?_cons_succ, List.set_cons_zero, List.set_cons_succ, List.length_cons, List.length_nil, D.int.injEq, D.bl.injEq, D.str.injEq, Option.some.injEq, exists_eq_left', go_listF, go_listT, go_tupleF, go_tupleT, go_lenF, go_lenT, go_lenS, go_isiS, go_isiI, go_intI, go_intB, go_maxI, it_lst, it_tupD, it_strD, en_lst, en_tup, fr_gN, wipeD, go_inTab, go_notInTab, go_tab, go_lc2, go_par2, go_par3, go_asg, go_isB, go_tell, go_kget, go_notB, go_slStep, go_slStepT, go_dictZip, go_setEq]
    refine ⟨rfl, ?_⟩
    refine ptimes_ok hs qs hk hl (Nat.zero_le _) ?_
    have m0 : ∀ (s acc : Sm), mulFrom acc s [] = acc := fun s => by
      induction s with
      | nil => exact fun _ => rfl
      | cons p s ih => exact fun acc => ih _
    rw [m0, ptg_self qs.ok, nn, go_ok]
    refine ⟨by decide, _, rfl, ?_⟩
    rw [if_neg (by decide), go_tupF]
    simp only [go_bin, go_un, go_var, go_c, go_test, go_andT, go_orT, go_notT, go_yes, go_andV, go_if, go_nil, go_cons, go_tup, go_lst, go_lstC, go_cb, go_call, go_callW, go_meth, go_noPart, go_part, go_sl, go_get, go_retN, go_lc, go_dc, go_iter, go_enum, go_rng, go_rng1, go_rng2, go_rng3, go_disp, go_pnil, go_pcons, go_bdT, go_bdF, go_ok, go_nx, go_rt, go_addI, go_addS, go_addT, go_addL, go_subI, go_mulI, go_mulL, go_modI, go_fdivI, go_powI, go_ltI, go_leI, go_gtI, go_geI, go_eqI, go_eqS, go_neI, go_neS, go_ixF, go_ixT, go_ixS, go_ixD, go_slT, go_slF, go_slR, go_slS, go_revF, go_revCF, go_revAT, go_revAL, List.getElem?_cons_zero, List.getElem?_cons_succ, List.set_cons_zero, List.set_cons_succ, List.length_cons, List.length_nil, D.int.injEq, D.bl.injEq, D.str.injEq, Option.some.injEq, exists_eq_left', go_listF, go_listT, go_tupleF, go_tupleT, go_lenF, go_lenT, go_lenS, go_isiS, go_isiI, go_intI, go_intB, go_maxI, it_lst, it_tupD, it_strD, en_lst, en_tup, fr_gN, wipeD, go_inTab, go_notInTab, go_tab, go_lc2, go_par2, go_par3, go_asg, go_isB, go_tell, go_kget, go_notB, go_slStep, go_slStepT, go_dictZip, go_setEq]
    refine ⟨rfl, ?_⟩
    refine padded_ok qs ht (Nat.zero_le _) hl' ?_
    rw [added_nil ht.ok]
    refine ne_sums ⟨_, rfl, ?_⟩
    rw [if_neg (by decide), go_next, go_ret]
    simp only [go_bin, go_un, go_var, go_c, go_test, go_andT, go_orT, go_notT, go_yes, go_andV, go_if, go_nil, go_cons, go_tup, go_lst, go_lstC, go_cb, go_call, go_callW, go_meth, go_noPart, go_part, go_sl, go_get, go_retN, go_lc, go_dc, go_iter, go_enum, go_rng, go_rng1, go_rng2, go_rng3, go_disp, go_pnil, go_pcons, go_bdT, go_bdF, go_ok, go_nx, go_rt, go_addI, go_addS, go_addT, go_addL, go_subI, go_mulI, go_mulL, go_modI, go_fdivI, go_powI, go_ltI, go_leI, go_gtI, go_geI, go_eqI, go_eqS, go_neI, go_neS, go_ixF, go_ixT, go_ixS, go_ixD, go_slT, go_slF, go_slR, go_slS, go_revF, go_revCF, go_revAT, go_revAL, List.getElem?_cons_zero, List.getElem?_cons_succ, List.set_cons_zero, List.set_cons_succ, List.length_cons, List.length_nil, D.int.injEq, D.bl.injEq, D.str.injEq, Option.some.injEq, exists_eq_left', go_listF, go_listT, go_tupleF, go_tupleT, go_lenF, go_lenT, go_lenS, go_isiS, go_isiI, go_intI, go_intB, go_maxI, it_lst, it_tupD, it_strD, en_lst, en_tup, fr_gN, wipeD, go_inTab, go_notInTab, go_tab, go_lc2, go_par2, go_par3, go_asg, go_isB, go_tell, go_kget, go_notB, go_slStep, go_slStepT, go_dictZip, go_setEq, true_and]
    rw [go_shQ (.tup ptt) (by decide) (by decide) wt, hK, go_eqS, decide_eq_true rfl]
    exact ⟨by decide, go_fin_dz0 h hd (frz_low rfl) fun M3 h3 => q M3 (h3.mono (by rw [List.length_nil]; omega))⟩
end
end K28
namespace K28
open PySem PySem.Spec PyProof.Rows L2 Ly Su
open Sk (wX sX shX)
def GA (d : D) : Prop := Pq 2 30 d ∧ wX d ≤ 16000
theorem go_addLC {M : Mem} {n : Nat} {ds es : List D} {Q : D → Mem → Prop} (h : M[n]? = some (.lst es)) : Go (opAdd (.lst ds) (.ref n) M) Q = (szOk (ds.length + es.length) = true ∧ Q (.lst (ds ++ es)) M) := by
  have e2 : opAdd (.lst ds) (.ref n) M = if szOk (ds.length + es.length) = true then .ok (.lst (ds ++ es)) M else .bad := by
    unfold opAdd
    simp only [h, lstOf, lstM]
  rw [e2]
  exact go_iteC
theorem isi_bl {x : Bool} {M : Mem} {Q : D → Mem → Prop} : Go (fIsi [.bl x, .ty "bool"] M) Q = Q (.bl true) M := id rfl
theorem ne_bl {x y : Bool} {M : Mem} {Q : D → Mem → Prop} : Go (opNe (.bl x) (.bl y) M) Q = Q (.bl (!decide (x = y))) M := id rfl
noncomputable def oddL (k : Nat) (s : Sm) : List D := [.non, .bl true, .int 0, .str "", .tup [], .lst [], .dic [], .tup [.int 0], .tup [.tup []], .tup [.tup [], .int 1], .tup [.tup [.tup [], .int 1]], .tup [.tup [.tup (List.replicate k (.int 0)), .int 0]], .lst (s.map tp)]
theorem ga_of {e : Nat} {d : D} (h : Pq 0 e d) (he : e ≤ 30) (w : wX d ≤ 16000) : GA d := ⟨h.mono (by decide) he, w⟩
theorem oddL_ok {k : Nat} {s : Sm} (h : Mid k s) (hk : k ≤ 4) (hl : s.length ≤ 8) : ∀ d ∈ oddL k s, GA d := by
  have z0 : Pq 0 0 (.int 0) := .int (by decide)
  have z1 : Pq 0 1 (.int 1) := .int (by decide)
  have e1 : Pq 0 1 (.tup []) := .tup (e := 0) (by simp)
  have zr : Pq 0 1 (.tup (List.replicate k (.int 0))) := .tup fun d hd => by
    rw [List.eq_of_mem_replicate hd]
    exact z0
  have two : ∀ {e : Nat} {a b : D}, Pq 0 e a → Pq 0 e b → Pq 0 (e + 1) (.tup [a, b]) := fun ha hb => .tup fun d hd => by
    rcases List.mem_cons.mp hd with rfl | hd
    · exact ha
    · rw [List.mem_singleton.mp hd]
      exact hb
  have one : ∀ {e : Nat} {a : D}, Pq 0 e a → Pq 0 (e + 1) (.tup [a]) := fun ha => .tup fun d hd => by
    rw [List.mem_singleton.mp hd]
    exact ha
  have ps : ∀ d ∈ s.map tp, Pq 0 2 d := fun d hd => by
    have := h.pq (j := 0) (e := 0)
    cases this with
    | ftu g => exact g d hd
  intro d hd
  simp only [oddL, List.mem_cons, List.not_mem_nil, or_false] at hd
  rcases hd with rfl | rfl | rfl | rfl | rfl | rfl | rfl | rfl | rfl | rfl | rfl | rfl | rfl
  · exact ga_of (e := 0) .non (by decide) (by decide)
  · exact ga_of (e := 0) .bl (by decide) (by decide)
  · exact ga_of z0 (by decide) (by decide)
  · exact ga_of (e := 0) (.str (by decide)) (by decide) (by decide)
  · exact ga_of e1 (by decide) (by decide)
  · exact ga_of (e := 1) (.lst (e := 0) (by simp)) (by decide) (by decide)
  · exact ga_of (e := 1) (.dic (e := 0)) (by decide) (by decide)
  · exact ga_of (one z0) (by decide) (by decide)
  · exact ga_of (one e1) (by decide) (by decide)
  · exact ga_of (two e1 z1) (by decide) (by decide)
  · exact ga_of (one (two e1 z1)) (by decide) (by decide)
  · refine ga_of (one (two zr (.int (by decide)))) (by decide) ?_
    have : k = 0 ∨ k = 1 ∨ k = 2 ∨ k = 3 ∨ k = 4 := by omega
    rcases this with rfl | rfl | rfl | rfl | rfl <;> exact Nat.le_of_ble_eq_true rfl
  · refine ga_of (.lst ps) (by decide) ?_
    have w := h.w hk
    have e2 : wX (sD s) = sX (s.map tp) := qX_ftu (j := 0) (e := 2) (by decide) ps
    rw [qX_lst (j := 0) (e := 2) (by decide) ps, ← e2]
    omega
theorem zeros_ok {k : Nat} {M : Mem} {Q : D → Mem → Prop} (hk : k ≤ 4) (q : Q (.tup (List.replicate k (.int 0))) M) : Go (opMulV (.tup [.int 0]) (.int (k : Nat)) M) Q := by
  by_cases h0 : k = 0
  · subst h0
    rw [show ((0 : Nat) : Int) = 0 from rfl, go_mulV0 (by simp)]
    exact q
  by_cases h1 : k = 1
  · subst h1
    rw [show ((1 : Nat) : Int) = 1 from rfl, go_mulV1]
    exact q
  rw [go_mulVT (by simp) (by omega) (by omega) (by decide), Int.toNat_natCast]
  have e : (List.replicate k [D.int 0]).flatten = List.replicate k (.int 0) := by
    clear q h0 h1 hk
    induction k with
    | zero => rfl
    | succ k ih => rw [List.replicate_succ, List.replicate_succ, List.flatten_cons, ih]; rfl
  rw [e]
  exact q
def ThingsA (B : Nat) (T : Mem) (r : Nat) (M' : Mem) : Prop := ∃ things : List D, DzIs (B + 200 * (12 - r)) (T ++ [Cell.lst things]) M' ∧ (∀ d ∈ things, GA d) ∧ things.length ≤ 13 + (12 - r)
theorem puts_ok {B b r : Nat} {T M' : Mem} {things : List D} {d' : D} {Q : D → Mem → Prop} (h : DzIs b (T ++ [Cell.lst things]) M') (hG : ∀ d ∈ things, GA d) (hl : things.length ≤ 13 + (12 - (r + 1))) (hr : r + 1 ≤ 12) (hb : b ≤ B + 200 * (12 - r)) (g' : GA d') (q : ∀ M2, ThingsA B T r M2 → Q .non M2) : Go (fAppend (.ref (T.length + 2)) [d'] M') Q := by
  have c5 : M'[T.length + 2]? = some (.lst things) := by
    rw [h.get]
    simp
  rw [go_append c5]
  refine ⟨by omega, q _ ⟨things ++ [d'], ?_, fun x hx => ?_, by rw [List.length_append, List.length_singleton]; omega⟩⟩
  · have := h.set T.length (.lst (things ++ [d']))
    rw [Su.set_last] at this
    exact this.mono hb
  · rcases List.mem_append.mp hx with hx | hx
    · exact hG x hx
    · rw [List.mem_singleton.mp hx]
      exact g'
theorem law_math (ns : List Int) (hn : ns.length ≤ 63) : ∃ M', f_law [scriptD ns] [] = .ok (.bl true) M' := by
  have main : Go (f_law [scriptD ns] []) fun d _ => d = .bl true := by
    have fin : ∀ M' : Mem, Go (Ly.finish [] (.bl true) M') fun d _ => d = .bl true := fun M' => go_finish (fun i hi => absurd hi (Nat.not_lt_zero _)) (frz_low rfl) rfl
    rw [f_law, go_callD, show startD 14 [scriptD ns] = [some (scriptD ns), none, none, none, none, none, none, none, none, none, none, none, none, none] from rfl, m_law]
    rw [e_deck, e_draw]
    rw [go_seq, go_set]
    simp only [go_bin, go_un, go_var, go_c, go_test, go_andT, go_orT, go_notT, go_yes, go_andV, go_if, go_nil, go_cons, go_tup, go_lst, go_lstC, go_cb, go_call, go_callW, go_meth, go_noPart, go_part, go_sl, go_get, go_retN, go_lc, go_dc, go_iter, go_enum, go_rng, go_rng1, go_rng2, go_rng3, go_disp, go_pnil, go_pcons, go_bdT, go_bdF, go_ok, go_nx, go_rt, go_addI, go_addS, go_addT, go_addL, go_subI, go_mulI, go_mulL, go_modI, go_fdivI, go_powI, go_ltI, go_leI, go_gtI, go_geI, go_eqI, go_eqS, go_neI, go_neS, go_ixF, go_ixT, go_ixS, go_ixD, go_slT, go_slF, go_slR, go_slS, go_revF, go_revCF, go_revAT, go_revAL, List.getElem?_cons_zero, List.getElem?_cons_succ, List.set_cons_zero, List.set_cons_succ, List.length_cons, List.length_nil, D.int.injEq, D.bl.injEq, D.str.injEq, Option.some.injEq, exists_eq_left', go_listF, go_listT, go_tupleF, go_tupleT, go_lenF, go_lenT, go_lenS, go_isiS, go_isiI, go_intI, go_intB, go_maxI, it_lst, it_tupD, it_strD, en_lst, en_tup, fr_gN, wipeD, go_inTab, go_notInTab, go_tab, go_lc2, go_par2, go_par3, go_asg, go_isB, go_tell, go_kget, go_notB, go_slStep, go_slStepT, go_dictZip, go_setEq, true_and]
    refine deck_ok hn fun M0 h0 => ?_
    rw [go_seq, go_for]
    simp only [go_bin, go_un, go_var, go_c, go_test, go_andT, go_orT, go_notT, go_yes, go_andV, go_if, go_nil, go_cons, go_tup, go_lst, go_lstC, go_cb, go_call, go_callW, go_meth, go_noPart, go_part, go_sl, go_get, go_retN, go_lc, go_dc, go_iter, go_enum, go_rng, go_rng1, go_rng2, go_rng3, go_disp, go_pnil, go_pcons, go_bdT, go_bdF, go_ok, go_nx, go_rt, go_addI, go_addS, go_addT, go_addL, go_subI, go_mulI, go_mulL, go_modI, go_fdivI, go_powI, go_ltI, go_leI, go_gtI, go_geI, go_eqI, go_eqS, go_neI, go_neS, go_ixF, go_ixT, go_ixS, go_ixD, go_slT, go_slF, go_slR, go_slS, go_revF, go_revCF, go_revAT, go_revAL, List.getElem?_cons_zero, List.getElem?_cons_succ, List.set_cons_zero, List.set_cons_succ, List.length_cons, List.length_nil, D.int.injEq, D.bl.injEq, D.str.injEq, Option.some.injEq, exists_eq_left', go_listF, go_listT, go_tupleF, go_tupleT, go_lenF, go_lenT, go_lenS, go_isiS, go_isiI, go_intI, go_intB, go_maxI, it_lst, it_tupD, it_strD, en_lst, en_tup, fr_gN, wipeD, go_inTab, go_notInTab, go_tab, go_lc2, go_par2, go_par3, go_asg, go_isB, go_tell, go_kget, go_notB, go_slStep, go_slStepT, go_dictZip, go_setEq]
    refine ⟨rngOk_of (by decide) (by decide), ?_⟩
    refine go_loop (fun rem env M' => rem.length ≤ 6 ∧ ∃ T : Mem, DzIs (5000 * (6 - rem.length)) T M' ∧ ∃ x2 x3 x4 x5 x6 x7 x8 x9 x10 x11 : Option D, env = [some (scriptD ns), some (.ref 1), x2, x3, x4, x5, x6, x7, x8, x9, x10, x11, none, none]) ?_ ?_ _ _ _ ⟨Nat.le_refl 6, [], h0.mono (Nat.zero_le _), _, _, _, _, _, _, _, _, _, _, rfl⟩
    · rintro d rem env M' ⟨hr, T, hd, x2, x3, x4, x5, x6, x7, x8, x9, x10, x11, rfl⟩
      rw [List.length_cons] at hd hr
      refine ⟨trivial, _, rfl, ?_⟩
      rw [go_seq, go_set]
      simp only [go_bin, go_un, go_var, go_c, go_test, go_andT, go_orT, go_notT, go_yes, go_andV, go_if, go_nil, go_cons, go_tup, go_lst, go_lstC, go_cb, go_call, go_callW, go_meth, go_noPart, go_part, go_sl, go_get, go_retN, go_lc, go_dc, go_iter, go_enum, go_rng, go_rng1, go_rng2, go_rng3, go_disp, go_pnil, go_pcons, go_bdT, go_bdF, go_ok, go_nx, go_rt, go_addI, go_addS, go_addT, go_addL, go_subI, go_mulI, go_mulL, go_modI, go_fdivI, go_powI, go_ltI, go_leI, go_gtI, go_geI, go_eqI, go_eqS, go_neI, go_neS, go_ixF, go_ixT, go_ixS, go_ixD, go_slT, go_slF, go_slR, go_slS, go_revF, go_revCF, go_revAT, go_revAL, List.getElem?_cons_zero, List.getElem?_cons_succ, List.set_cons_zero, List.set_cons_succ, List.length_cons, List.length_nil, D.int.injEq, D.bl.injEq, D.str.injEq, Option.some.injEq, exists_eq_left', go_listF, go_listT, go_tupleF, go_tupleT, go_lenF, go_lenT, go_lenS, go_isiS, go_isiI, go_intI, go_intB, go_maxI, it_lst, it_tupD, it_strD, en_lst, en_tup, fr_gN, wipeD, go_inTab, go_notInTab, go_tab, go_lc2, go_par2, go_par3, go_asg, go_isB, go_tell, go_kget, go_notB, go_slStep, go_slStepT, go_dictZip, go_setEq, true_and]
      refine draw_ok hd (by omega) (by decide) (by decide) fun mk M1 m0 m1 h1 => ?_
      obtain ⟨k, rfl⟩ := Int.eq_ofNat_of_zero_le m0
      have hk : k ≤ 4 := by omega
      rw [go_seq, go_par2]
      simp only [go_bin, go_un, go_var, go_c, go_test, go_andT, go_orT, go_notT, go_yes, go_andV, go_if, go_nil, go_cons, go_tup, go_lst, go_lstC, go_cb, go_call, go_callW, go_meth, go_noPart, go_part, go_sl, go_get, go_retN, go_lc, go_dc, go_iter, go_enum, go_rng, go_rng1, go_rng2, go_rng3, go_disp, go_pnil, go_pcons, go_bdT, go_bdF, go_ok, go_nx, go_rt, go_addI, go_addS, go_addT, go_addL, go_subI, go_mulI, go_mulL, go_modI, go_fdivI, go_powI, go_ltI, go_leI, go_gtI, go_geI, go_eqI, go_eqS, go_neI, go_neS, go_ixF, go_ixT, go_ixS, go_ixD, go_slT, go_slF, go_slR, go_slS, go_revF, go_revCF, go_revAT, go_revAL, List.getElem?_cons_zero, List.getElem?_cons_succ, List.set_cons_zero, List.set_cons_succ, List.length_cons, List.length_nil, D.int.injEq, D.bl.injEq, D.str.injEq, Option.some.injEq, exists_eq_left', go_listF, go_listT, go_tupleF, go_tupleT, go_lenF, go_lenT, go_lenS, go_isiS, go_isiI, go_intI, go_intB, go_maxI, it_lst, it_tupD, it_strD, en_lst, en_tup, fr_gN, wipeD, go_inTab, go_notInTab, go_tab, go_lc2, go_par2, go_par3, go_asg, go_isB, go_tell, go_kget, go_notB, go_slStep, go_slStepT, go_dictZip, go_setEq, List.set_cons_zero, List.set_cons_succ, true_and]
      refine sum_ok (n := 8) h1 (by omega) hk (by decide) fun s M2 hs hl h2 => ?_
      refine sum_ok (n := 12) h2 (by omega) hk (by decide) fun t M3 ht hl' h3 => ?_
      refine ⟨_, _, rfl, ?_⟩
      rw [go_seq, go_set]
      simp only [go_bin, go_un, go_var, go_c, go_test, go_andT, go_orT, go_notT, go_yes, go_andV, go_if, go_nil, go_cons, go_tup, go_lst, go_lstC, go_cb, go_call, go_callW, go_meth, go_noPart, go_part, go_sl, go_get, go_retN, go_lc, go_dc, go_iter, go_enum, go_rng, go_rng1, go_rng2, go_rng3, go_disp, go_pnil, go_pcons, go_bdT, go_bdF, go_ok, go_nx, go_rt, go_addI, go_addS, go_addT, go_addL, go_subI, go_mulI, go_mulL, go_modI, go_fdivI, go_powI, go_ltI, go_leI, go_gtI, go_geI, go_eqI, go_eqS, go_neI, go_neS, go_ixF, go_ixT, go_ixS, go_ixD, go_slT, go_slF, go_slR, go_slS, go_revF, go_revCF, go_revAT, go_revAL, List.getElem?_cons_zero, List.getElem?_cons_succ, List.set_cons_zero, List.set_cons_succ, List.length_cons, List.length_nil, D.int.injEq, D.bl.injEq, D.str.injEq, Option.some.injEq, exists_eq_left', go_listF, go_listT, go_tupleF, go_tupleT, go_lenF, go_lenT, go_lenS, go_isiS, go_isiI, go_intI, go_intB, go_maxI, it_lst, it_tupD, it_strD, en_lst, en_tup, fr_gN, wipeD, go_inTab, go_notInTab, go_tab, go_lc2, go_par2, go_par3, go_asg, go_isB, go_tell, go_kget, go_notB, go_slStep, go_slStepT, go_dictZip, go_setEq, List.set_cons_zero, List.set_cons_succ, true_and]
      simp only [it_ftu]
      refine ⟨_, rfl, ?_⟩
      refine cp_pure (f := tp) (h := fun p => tp (p.1, 0 - p.2)) trivial s [] (by rw [List.length_nil]; omega) (fun p hp => ⟨_, rfl, fun K hK => ?_⟩) ?_
      · simp only [go_bin, go_un, go_var, go_c, go_test, go_andT, go_orT, go_notT, go_yes, go_andV, go_if, go_nil, go_cons, go_tup, go_lst, go_lstC, go_cb, go_call, go_callW, go_meth, go_noPart, go_part, go_sl, go_get, go_retN, go_lc, go_dc, go_iter, go_enum, go_rng, go_rng1, go_rng2, go_rng3, go_disp, go_pnil, go_pcons, go_bdT, go_bdF, go_ok, go_nx, go_rt, go_addI, go_addS, go_addT, go_addL, go_subI, go_mulI, go_mulL, go_modI, go_fdivI, go_powI, go_ltI, go_leI, go_gtI, go_geI, go_eqI, go_eqS, go_neI, go_neS, go_ixF, go_ixT, go_ixS, go_ixD, go_slT, go_slF, go_slR, go_slS, go_revF, go_revCF, go_revAT, go_revAL, List.getElem?_cons_zero, List.getElem?_cons_succ, List.set_cons_zero, List.set_cons_succ, List.length_cons, List.length_nil, D.int.injEq, D.bl.injEq, D.str.injEq, Option.some.injEq, exists_eq_left', go_listF, go_listT, go_tupleF, go_tupleT, go_lenF, go_lenT, go_lenS, go_isiS, go_isiI, go_intI, go_intB, go_maxI, it_lst, it_tupD, it_strD, en_lst, en_tup, fr_gN, wipeD, go_inTab, go_notInTab, go_tab, go_lc2, go_par2, go_par3, go_asg, go_isB, go_tell, go_kget, go_notB, go_slStep, go_slStepT, go_dictZip, go_setEq, List.set_cons_zero, List.set_cons_succ, true_and]
        exact ⟨by decide, hK⟩
      have en : ([] : List D) ++ s.map (fun p => tp (p.1, 0 - p.2)) = (sc (-1) s).map tp := by
        rw [List.nil_append]
        show _ = (s.map _).map tp
        rw [List.map_map]
        refine List.map_congr_left fun p hp => ?_
        show tp (p.1, 0 - p.2) = tp (p.1, p.2 * -1)
        rw [show 0 - p.2 = p.2 * -1 by omega]
      rw [en, go_tupleFF]
      refine ⟨by decide, draw_ok h3 (by omega) (by decide) (by decide) fun r M4 r0 r1 h4 => ?_⟩
      obtain ⟨o, eo, qo, lo⟩ : ∃ o : Sm, atI [Su.sD t, Su.sD s, D.ftu (List.map tp (sc (-1) s)), Su.sD t] r = some (Su.sD o) ∧ SumQ k o ∧ o.length ≤ 12 := by
        have rr : r = 0 ∨ r = 1 ∨ r = 2 ∨ r = 3 := by omega
        rcases rr with rfl | rfl | rfl | rfl
        · exact ⟨t, rfl, ht, hl'⟩
        · exact ⟨s, rfl, hs, by omega⟩
        · exact ⟨sc (-1) s, rfl, hs.neg, by rw [sc_len]; omega⟩
        · exact ⟨t, rfl, ht, hl'⟩
      simp only [go_bin, go_un, go_var, go_c, go_test, go_andT, go_orT, go_notT, go_yes, go_andV, go_if, go_nil, go_cons, go_tup, go_lst, go_lstC, go_cb, go_call, go_callW, go_meth, go_noPart, go_part, go_sl, go_get, go_retN, go_lc, go_dc, go_iter, go_enum, go_rng, go_rng1, go_rng2, go_rng3, go_disp, go_pnil, go_pcons, go_bdT, go_bdF, go_ok, go_nx, go_rt, go_addI, go_addS, go_addT, go_addL, go_subI, go_mulI, go_mulL, go_modI, go_fdivI, go_powI, go_ltI, go_leI, go_gtI, go_geI, go_eqI, go_eqS, go_neI, go_neS, go_ixF, go_ixT, go_ixS, go_ixD, go_slT, go_slF, go_slR, go_slS, go_revF, go_revCF, go_revAT, go_revAL, List.getElem?_cons_zero, List.getElem?_cons_succ, List.set_cons_zero, List.set_cons_succ, List.length_cons, List.length_nil, D.int.injEq, D.bl.injEq, D.str.injEq, Option.some.injEq, exists_eq_left', go_listF, go_listT, go_tupleF, go_tupleT, go_lenF, go_lenT, go_lenS, go_isiS, go_isiI, go_intI, go_intB, go_maxI, it_lst, it_tupD, it_strD, en_lst, en_tup, fr_gN, wipeD, go_inTab, go_notInTab, go_tab, go_lc2, go_par2, go_par3, go_asg, go_isB, go_tell, go_kget, go_notB, go_slStep, go_slStepT, go_dictZip, go_setEq]
      refine ⟨_, eo, ?_⟩
      rw [go_seq, go_ifS]
      simp only [go_bin, go_un, go_var, go_c, go_test, go_andT, go_orT, go_notT, go_yes, go_andV, go_if, go_nil, go_cons, go_tup, go_lst, go_lstC, go_cb, go_call, go_callW, go_meth, go_noPart, go_part, go_sl, go_get, go_retN, go_lc, go_dc, go_iter, go_enum, go_rng, go_rng1, go_rng2, go_rng3, go_disp, go_pnil, go_pcons, go_bdT, go_bdF, go_ok, go_nx, go_rt, go_addI, go_addS, go_addT, go_addL, go_subI, go_mulI, go_mulL, go_modI, go_fdivI, go_powI, go_ltI, go_leI, go_gtI, go_geI, go_eqI, go_eqS, go_neI, go_neS, go_ixF, go_ixT, go_ixS, go_ixD, go_slT, go_slF, go_slR, go_slS, go_revF, go_revCF, go_revAT, go_revAL, List.getElem?_cons_zero, List.getElem?_cons_succ, List.set_cons_zero, List.set_cons_succ, List.length_cons, List.length_nil, D.int.injEq, D.bl.injEq, D.str.injEq, Option.some.injEq, exists_eq_left', go_listF, go_listT, go_tupleF, go_tupleT, go_lenF, go_lenT, go_lenS, go_isiS, go_isiI, go_intI, go_intB, go_maxI, it_lst, it_tupD, it_strD, en_lst, en_tup, fr_gN, wipeD, go_inTab, go_notInTab, go_tab, go_lc2, go_par2, go_par3, go_asg, go_isB, go_tell, go_kget, go_notB, go_slStep, go_slStepT, go_dictZip, go_setEq, List.set_cons_zero, List.set_cons_succ, true_and]
      refine both_ok h4 (by omega) hk hs qo hl lo fun M5 h5 => ?_
      refine ⟨_, rfl, ?_⟩
      rw [if_neg (by decide), go_next, go_seq, go_set, go_lstC]
      have dn : ∀ (env : Ly.Env) (M : Mem) (Q' : D → Mem → Prop), Go (mDNew false env M) Q' = Q' (.dic []) M := fun _ _ _ => rfl
      simp only [go_bin, go_un, go_var, go_c, go_test, go_andT, go_orT, go_notT, go_yes, go_andV, go_if, go_nil, go_cons, go_tup, go_lst, go_lstC, go_cb, go_call, go_callW, go_meth, go_noPart, go_part, go_sl, go_get, go_retN, go_lc, go_dc, go_iter, go_enum, go_rng, go_rng1, go_rng2, go_rng3, go_disp, go_pnil, go_pcons, go_bdT, go_bdF, go_ok, go_nx, go_rt, go_addI, go_addS, go_addT, go_addL, go_subI, go_mulI, go_mulL, go_modI, go_fdivI, go_powI, go_ltI, go_leI, go_gtI, go_geI, go_eqI, go_eqS, go_neI, go_neS, go_ixF, go_ixT, go_ixS, go_ixD, go_slT, go_slF, go_slR, go_slS, go_revF, go_revCF, go_revAT, go_revAL, List.getElem?_cons_zero, List.getElem?_cons_succ, List.set_cons_zero, List.set_cons_succ, List.length_cons, List.length_nil, D.int.injEq, D.bl.injEq, D.str.injEq, Option.some.injEq, exists_eq_left', go_listF, go_listT, go_tupleF, go_tupleT, go_lenF, go_lenT, go_lenS, go_isiS, go_isiI, go_intI, go_intB, go_maxI, it_lst, it_tupD, it_strD, en_lst, en_tup, fr_gN, wipeD, go_inTab, go_notInTab, go_tab, go_lc2, go_par2, go_par3, go_asg, go_isB, go_tell, go_kget, go_notB, go_slStep, go_slStepT, go_dictZip, go_setEq, dn, true_and]
      refine ⟨by decide, by decide, by decide, by decide, by decide, by decide, by decide, by decide, ?_⟩
      refine ⟨by decide, by decide, by decide, zeros_ok hk ?_⟩
      refine ⟨by decide, by decide, ?_⟩
      rw [list_any (d := Su.sD s) (ds := s.map tp) rfl M5, go_ok]
      refine ⟨by decide, ?_⟩
      have ms := hs.mid (by omega)
      have gs : GA (Su.sD s) := ga_of (ms.pq (e := 0)) (by decide) (by have := ms.w hk; omega)
      have hM5 : M5.length = T.length + 2 := h5.len
      rw [hM5, go_seq, go_for]
      simp only [go_bin, go_un, go_var, go_c, go_test, go_andT, go_orT, go_notT, go_yes, go_andV, go_if, go_nil, go_cons, go_tup, go_lst, go_lstC, go_cb, go_call, go_callW, go_meth, go_noPart, go_part, go_sl, go_get, go_retN, go_lc, go_dc, go_iter, go_enum, go_rng, go_rng1, go_rng2, go_rng3, go_disp, go_pnil, go_pcons, go_bdT, go_bdF, go_ok, go_nx, go_rt, go_addI, go_addS, go_addT, go_addL, go_subI, go_mulI, go_mulL, go_modI, go_fdivI, go_powI, go_ltI, go_leI, go_gtI, go_geI, go_eqI, go_eqS, go_neI, go_neS, go_ixF, go_ixT, go_ixS, go_ixD, go_slT, go_slF, go_slR, go_slS, go_revF, go_revCF, go_revAT, go_revAL, List.getElem?_cons_zero, List.getElem?_cons_succ, List.set_cons_zero, List.set_cons_succ, List.length_cons, List.length_nil, D.int.injEq, D.bl.injEq, D.str.injEq, Option.some.injEq, exists_eq_left', go_listF, go_listT, go_tupleF, go_tupleT, go_lenF, go_lenT, go_lenS, go_isiS, go_isiI, go_intI, go_intB, go_maxI, it_lst, it_tupD, it_strD, en_lst, en_tup, fr_gN, wipeD, go_inTab, go_notInTab, go_tab, go_lc2, go_par2, go_par3, go_asg, go_isB, go_tell, go_kget, go_notB, go_slStep, go_slStepT, go_dictZip, go_setEq]
      refine ⟨rngOk_of (by decide) (by decide), ?_⟩
      generalize hB : 5000 * (5 - rem.length) + 500 = B0
      refine go_loop (fun rem env M' => rem.length ≤ 12 ∧ ThingsA (B0) T rem.length M' ∧ ∃ x7 x8 x9 : Option D, env = [some (scriptD ns), some (D.ref 1), some d, some (.int (k : Nat)), some (Su.sD s), some (Su.sD o), some (D.ref (T.length + 2)), x7, x8, x9, x10, x11, none, none]) ?_ ?_ _ _ _ ⟨Nat.le_refl 12, ⟨oddL k s, (h5.push _).mono ?_, oddL_ok ms hk hl, Nat.le_refl 13⟩, _, _, _, rfl⟩
      · rintro y rem2 env M' ⟨hr2, ⟨things, hd2, hG, hl2⟩, x7, x8, x9, rfl⟩
        rw [List.length_cons] at hr2 hd2 hl2
        refine ⟨trivial, _, rfl, ?_⟩
        rw [go_seq, go_set]
        simp only [go_bin, go_un, go_var, go_c, go_test, go_andT, go_orT, go_notT, go_yes, go_andV, go_if, go_nil, go_cons, go_tup, go_lst, go_lstC, go_cb, go_call, go_callW, go_meth, go_noPart, go_part, go_sl, go_get, go_retN, go_lc, go_dc, go_iter, go_enum, go_rng, go_rng1, go_rng2, go_rng3, go_disp, go_pnil, go_pcons, go_bdT, go_bdF, go_ok, go_nx, go_rt, go_addI, go_addS, go_addT, go_addL, go_subI, go_mulI, go_mulL, go_modI, go_fdivI, go_powI, go_ltI, go_leI, go_gtI, go_geI, go_eqI, go_eqS, go_neI, go_neS, go_ixF, go_ixT, go_ixS, go_ixD, go_slT, go_slF, go_slR, go_slS, go_revF, go_revCF, go_revAT, go_revAL, List.getElem?_cons_zero, List.getElem?_cons_succ, List.set_cons_zero, List.set_cons_succ, List.length_cons, List.length_nil, D.int.injEq, D.bl.injEq, D.str.injEq, Option.some.injEq, exists_eq_left', go_listF, go_listT, go_tupleF, go_tupleT, go_lenF, go_lenT, go_lenS, go_isiS, go_isiI, go_intI, go_intB, go_maxI, it_lst, it_tupD, it_strD, en_lst, en_tup, fr_gN, wipeD, go_inTab, go_notInTab, go_tab, go_lc2, go_par2, go_par3, go_asg, go_isB, go_tell, go_kget, go_notB, go_slStep, go_slStepT, go_dictZip, go_setEq, true_and]
        refine draw_ok hd2 (by omega) (by decide) (by decide) fun tw M6 t0 t1 h6 => ?_
        simp only [go_bin, go_un, go_var, go_c, go_test, go_andT, go_orT, go_notT, go_yes, go_andV, go_if, go_nil, go_cons, go_tup, go_lst, go_lstC, go_cb, go_call, go_callW, go_meth, go_noPart, go_part, go_sl, go_get, go_retN, go_lc, go_dc, go_iter, go_enum, go_rng, go_rng1, go_rng2, go_rng3, go_disp, go_pnil, go_pcons, go_bdT, go_bdF, go_ok, go_nx, go_rt, go_addI, go_addS, go_addT, go_addL, go_subI, go_mulI, go_mulL, go_modI, go_fdivI, go_powI, go_ltI, go_leI, go_gtI, go_geI, go_eqI, go_eqS, go_neI, go_neS, go_ixF, go_ixT, go_ixS, go_ixD, go_slT, go_slF, go_slR, go_slS, go_revF, go_revCF, go_revAT, go_revAL, List.getElem?_cons_zero, List.getElem?_cons_succ, List.set_cons_zero, List.set_cons_succ, List.length_cons, List.length_nil, D.int.injEq, D.bl.injEq, D.str.injEq, Option.some.injEq, exists_eq_left', go_listF, go_listT, go_tupleF, go_tupleT, go_lenF, go_lenT, go_lenS, go_isiS, go_isiI, go_intI, go_intB, go_maxI, it_lst, it_tupD, it_strD, en_lst, en_tup, fr_gN, wipeD, go_inTab, go_notInTab, go_tab, go_lc2, go_par2, go_par3, go_asg, go_isB, go_tell, go_kget, go_notB, go_slStep, go_slStepT, go_dictZip, go_setEq]
        rw [go_seq, go_set]
        simp only [go_bin, go_un, go_var, go_c, go_test, go_andT, go_orT, go_notT, go_yes, go_andV, go_if, go_nil, go_cons, go_tup, go_lst, go_lstC, go_cb, go_call, go_callW, go_meth, go_noPart, go_part, go_sl, go_get, go_retN, go_lc, go_dc, go_iter, go_enum, go_rng, go_rng1, go_rng2, go_rng3, go_disp, go_pnil, go_pcons, go_bdT, go_bdF, go_ok, go_nx, go_rt, go_addI, go_addS, go_addT, go_addL, go_subI, go_mulI, go_mulL, go_modI, go_fdivI, go_powI, go_ltI, go_leI, go_gtI, go_geI, go_eqI, go_eqS, go_neI, go_neS, go_ixF, go_ixT, go_ixS, go_ixD, go_slT, go_slF, go_slR, go_slS, go_revF, go_revCF, go_revAT, go_revAL, List.getElem?_cons_zero, List.getElem?_cons_succ, List.set_cons_zero, List.set_cons_succ, List.length_cons, List.length_nil, D.int.injEq, D.bl.injEq, D.str.injEq, Option.some.injEq, exists_eq_left', go_listF, go_listT, go_tupleF, go_tupleT, go_lenF, go_lenT, go_lenS, go_isiS, go_isiI, go_intI, go_intB, go_maxI, it_lst, it_tupD, it_strD, en_lst, en_tup, fr_gN, wipeD, go_inTab, go_notInTab, go_tab, go_lc2, go_par2, go_par3, go_asg, go_isB, go_tell, go_kget, go_notB, go_slStep, go_slStepT, go_dictZip, go_setEq, List.set_cons_zero, List.set_cons_succ, true_and]
        refine bent_ok 12 (e := 3) (j := 0) (n := 940) (by decide) (ms.pq (e := 0)) (by decide) (by have := ms.w hk; omega) (by decide) h6 (by omega) fun d1 M7 p1 w1 h7 => ?_
        rw [go_seq, go_ifS]
        simp only [go_bin, go_un, go_var, go_c, go_test, go_andT, go_orT, go_notT, go_yes, go_andV, go_if, go_nil, go_cons, go_tup, go_lst, go_lstC, go_cb, go_call, go_callW, go_meth, go_noPart, go_part, go_sl, go_get, go_retN, go_lc, go_dc, go_iter, go_enum, go_rng, go_rng1, go_rng2, go_rng3, go_disp, go_pnil, go_pcons, go_bdT, go_bdF, go_ok, go_nx, go_rt, go_addI, go_addS, go_addT, go_addL, go_subI, go_mulI, go_mulL, go_modI, go_fdivI, go_powI, go_ltI, go_leI, go_gtI, go_geI, go_eqI, go_eqS, go_neI, go_neS, go_ixF, go_ixT, go_ixS, go_ixD, go_slT, go_slF, go_slR, go_slS, go_revF, go_revCF, go_revAT, go_revAL, List.getElem?_cons_zero, List.getElem?_cons_succ, List.set_cons_zero, List.set_cons_succ, List.length_cons, List.length_nil, D.int.injEq, D.bl.injEq, D.str.injEq, Option.some.injEq, exists_eq_left', go_listF, go_listT, go_tupleF, go_tupleT, go_lenF, go_lenT, go_lenS, go_isiS, go_isiI, go_intI, go_intB, go_maxI, it_lst, it_tupD, it_strD, en_lst, en_tup, fr_gN, wipeD, go_inTab, go_notInTab, go_tab, go_lc2, go_par2, go_par3, go_asg, go_isB, go_tell, go_kget, go_notB, go_slStep, go_slStepT, go_dictZip, go_setEq, List.set_cons_zero, List.set_cons_succ, true_and]
        have g1 : GA d1 := ⟨p1.mono (by decide) (by decide), by omega⟩
        have c7 : ∀ {b2 : Nat} {M8 : Mem}, DzIs b2 (T ++ [Cell.lst things]) M8 → M8[T.length + 2]? = some (.lst things) := fun h => by
          rw [h.get]
          simp
        by_cases h2 : tw = 1
        · rw [if_pos (decide_eq_true h2)]
          refine bent_ok 12 (e := 6) (j := 1) (n := 2180) (by decide) p1 (by decide) w1 (by decide) h7 (by omega) fun d2 M8 p2 w2 h8 => ?_
          rw [go_drop]
          simp only [go_bin, go_un, go_var, go_c, go_test, go_andT, go_orT, go_notT, go_yes, go_andV, go_if, go_nil, go_cons, go_tup, go_lst, go_lstC, go_cb, go_call, go_callW, go_meth, go_noPart, go_part, go_sl, go_get, go_retN, go_lc, go_dc, go_iter, go_enum, go_rng, go_rng1, go_rng2, go_rng3, go_disp, go_pnil, go_pcons, go_bdT, go_bdF, go_ok, go_nx, go_rt, go_addI, go_addS, go_addT, go_addL, go_subI, go_mulI, go_mulL, go_modI, go_fdivI, go_powI, go_ltI, go_leI, go_gtI, go_geI, go_eqI, go_eqS, go_neI, go_neS, go_ixF, go_ixT, go_ixS, go_ixD, go_slT, go_slF, go_slR, go_slS, go_revF, go_revCF, go_revAT, go_revAL, List.getElem?_cons_zero, List.getElem?_cons_succ, List.set_cons_zero, List.set_cons_succ, List.length_cons, List.length_nil, D.int.injEq, D.bl.injEq, D.str.injEq, Option.some.injEq, exists_eq_left', go_listF, go_listT, go_tupleF, go_tupleT, go_lenF, go_lenT, go_lenS, go_isiS, go_isiI, go_intI, go_intB, go_maxI, it_lst, it_tupD, it_strD, en_lst, en_tup, fr_gN, wipeD, go_inTab, go_notInTab, go_tab, go_lc2, go_par2, go_par3, go_asg, go_isB, go_tell, go_kget, go_notB, go_slStep, go_slStepT, go_dictZip, go_setEq, List.set_cons_zero, List.set_cons_succ]
          refine ⟨isLst_ref (c7 h8), ?_⟩
          exact puts_ok h8 hG hl2 hr2 (by omega) ⟨p2.mono (by decide) (by decide), by omega⟩ fun M9 t9 => ⟨by omega, t9, _, _, _, rfl⟩
        · rw [if_neg (by simpa using h2)]
          try rw [go_next]
          rw [go_drop]
          simp only [go_bin, go_un, go_var, go_c, go_test, go_andT, go_orT, go_notT, go_yes, go_andV, go_if, go_nil, go_cons, go_tup, go_lst, go_lstC, go_cb, go_call, go_callW, go_meth, go_noPart, go_part, go_sl, go_get, go_retN, go_lc, go_dc, go_iter, go_enum, go_rng, go_rng1, go_rng2, go_rng3, go_disp, go_pnil, go_pcons, go_bdT, go_bdF, go_ok, go_nx, go_rt, go_addI, go_addS, go_addT, go_addL, go_subI, go_mulI, go_mulL, go_modI, go_fdivI, go_powI, go_ltI, go_leI, go_gtI, go_geI, go_eqI, go_eqS, go_neI, go_neS, go_ixF, go_ixT, go_ixS, go_ixD, go_slT, go_slF, go_slR, go_slS, go_revF, go_revCF, go_revAT, go_revAL, List.getElem?_cons_zero, List.getElem?_cons_succ, List.set_cons_zero, List.set_cons_succ, List.length_cons, List.length_nil, D.int.injEq, D.bl.injEq, D.str.injEq, Option.some.injEq, exists_eq_left', go_listF, go_listT, go_tupleF, go_tupleT, go_lenF, go_lenT, go_lenS, go_isiS, go_isiI, go_intI, go_intB, go_maxI, it_lst, it_tupD, it_strD, en_lst, en_tup, fr_gN, wipeD, go_inTab, go_notInTab, go_tab, go_lc2, go_par2, go_par3, go_asg, go_isB, go_tell, go_kget, go_notB, go_slStep, go_slStepT, go_dictZip, go_setEq, List.set_cons_zero, List.set_cons_succ]
          refine ⟨isLst_ref (c7 h7), ?_⟩
          exact puts_ok h7 hG hl2 hr2 (by omega) g1 fun M9 t9 => ⟨by omega, t9, _, _, _, rfl⟩
      · rintro env M' ⟨-, ⟨things, hd2, hG, hl2⟩, x7, x8, x9, rfl⟩
        refine ⟨trivial, ?_⟩
        have c2 : M'[T.length + 2]? = some (.lst things) := by
          rw [hd2.get]
          simp
        rw [go_for]
        simp only [go_iter, go_bin, go_lst, go_cons, go_nil, go_var, List.getElem?_cons_zero, List.getElem?_cons_succ, go_addLC c2, go_addL, it_lst, Option.some.injEq, exists_eq_left']
        have lt : things.length ≤ 25 := hl2
        refine ⟨(by rw [List.length_singleton]; omega), decide_eq_true (by rw [List.length_singleton]; omega), (by rw [List.length_singleton]; omega), decide_eq_true (by rw [List.length_append, List.length_singleton]; omega), ?_⟩
        have gL : ∀ x ∈ [Su.sD s] ++ things ++ [Su.sD s], GA x := fun x hx => by
          rcases List.mem_append.mp hx with hx | hx
          · rcases List.mem_append.mp hx with hx | hx
            · rw [List.mem_singleton.mp hx]
              exact gs
            · exact hG x hx
          · rw [List.mem_singleton.mp hx]
            exact gs
        refine go_loop (fun rem3 env M2 => (∀ x ∈ rem3, GA x) ∧ M2 = M' ∧ ∃ x8 x10 x11 : Option D, env = [some (scriptD ns), some (D.ref 1), some d, some (.int (k : Nat)), some (Su.sD s), some (Su.sD o), some (D.ref (T.length + 2)), x7, x8, x9, x10, x11, none, none]) ?_ ?_ _ _ _ ⟨gL, rfl, _, _, _, rfl⟩
        · rintro w rem3 env M2 ⟨hw, rfl, x8, x10, x11, rfl⟩
          obtain ⟨pw, ww⟩ := hw w (by simp)
          refine ⟨trivial, _, rfl, ?_⟩
          rw [go_seq, go_set]
          simp only [go_bin, go_un, go_var, go_c, go_test, go_andT, go_orT, go_notT, go_yes, go_andV, go_if, go_nil, go_cons, go_tup, go_lst, go_lstC, go_cb, go_call, go_callW, go_meth, go_noPart, go_part, go_sl, go_get, go_retN, go_lc, go_dc, go_iter, go_enum, go_rng, go_rng1, go_rng2, go_rng3, go_disp, go_pnil, go_pcons, go_bdT, go_bdF, go_ok, go_nx, go_rt, go_addI, go_addS, go_addT, go_addL, go_subI, go_mulI, go_mulL, go_modI, go_fdivI, go_powI, go_ltI, go_leI, go_gtI, go_geI, go_eqI, go_eqS, go_neI, go_neS, go_ixF, go_ixT, go_ixS, go_ixD, go_slT, go_slF, go_slR, go_slS, go_revF, go_revCF, go_revAT, go_revAL, List.getElem?_cons_zero, List.getElem?_cons_succ, List.set_cons_zero, List.set_cons_succ, List.length_cons, List.length_nil, D.int.injEq, D.bl.injEq, D.str.injEq, Option.some.injEq, exists_eq_left', go_listF, go_listT, go_tupleF, go_tupleT, go_lenF, go_lenT, go_lenS, go_isiS, go_isiI, go_intI, go_intB, go_maxI, it_lst, it_tupD, it_strD, en_lst, en_tup, fr_gN, wipeD, go_inTab, go_notInTab, go_tab, go_lc2, go_par2, go_par3, go_asg, go_isB, go_tell, go_kget, go_notB, go_slStep, go_slStepT, go_dictZip, go_setEq, List.set_cons_zero, List.set_cons_succ, true_and]
          rw [go_shQ pw (by decide) (by decide) ww]
          rw [go_seq, go_set]
          simp only [go_bin, go_un, go_var, go_c, go_test, go_andT, go_orT, go_notT, go_yes, go_andV, go_if, go_nil, go_cons, go_tup, go_lst, go_lstC, go_cb, go_call, go_callW, go_meth, go_noPart, go_part, go_sl, go_get, go_retN, go_lc, go_dc, go_iter, go_enum, go_rng, go_rng1, go_rng2, go_rng3, go_disp, go_pnil, go_pcons, go_bdT, go_bdF, go_ok, go_nx, go_rt, go_addI, go_addS, go_addT, go_addL, go_subI, go_mulI, go_mulL, go_modI, go_fdivI, go_powI, go_ltI, go_leI, go_gtI, go_geI, go_eqI, go_eqS, go_neI, go_neS, go_ixF, go_ixT, go_ixS, go_ixD, go_slT, go_slF, go_slR, go_slS, go_revF, go_revCF, go_revAT, go_revAL, List.getElem?_cons_zero, List.getElem?_cons_succ, List.set_cons_zero, List.set_cons_succ, List.length_cons, List.length_nil, D.int.injEq, D.bl.injEq, D.str.injEq, Option.some.injEq, exists_eq_left', go_listF, go_listT, go_tupleF, go_tupleT, go_lenF, go_lenT, go_lenS, go_isiS, go_isiI, go_intI, go_intB, go_maxI, it_lst, it_tupD, it_strD, en_lst, en_tup, fr_gN, wipeD, go_inTab, go_notInTab, go_tab, go_lc2, go_par2, go_par3, go_asg, go_isB, go_tell, go_kget, go_notB, go_slStep, go_slStepT, go_dictZip, go_setEq, List.set_cons_zero, List.set_cons_succ, true_and]
          rw [e_is_sum]
          refine is_sum_ok pw (by decide) ww ?_
          rw [go_ifS]
          simp only [go_bin, go_un, go_var, go_c, go_test, go_andT, go_orT, go_notT, go_yes, go_andV, go_if, go_nil, go_cons, go_tup, go_lst, go_lstC, go_cb, go_call, go_callW, go_meth, go_noPart, go_part, go_sl, go_get, go_retN, go_lc, go_dc, go_iter, go_enum, go_rng, go_rng1, go_rng2, go_rng3, go_disp, go_pnil, go_pcons, go_bdT, go_bdF, go_ok, go_nx, go_rt, go_addI, go_addS, go_addT, go_addL, go_subI, go_mulI, go_mulL, go_modI, go_fdivI, go_powI, go_ltI, go_leI, go_gtI, go_geI, go_eqI, go_eqS, go_neI, go_neS, go_ixF, go_ixT, go_ixS, go_ixD, go_slT, go_slF, go_slR, go_slS, go_revF, go_revCF, go_revAT, go_revAL, List.getElem?_cons_zero, List.getElem?_cons_succ, List.set_cons_zero, List.set_cons_succ, List.length_cons, List.length_nil, D.int.injEq, D.bl.injEq, D.str.injEq, Option.some.injEq, exists_eq_left', go_listF, go_listT, go_tupleF, go_tupleT, go_lenF, go_lenT, go_lenS, go_isiS, go_isiI, go_intI, go_intB, go_maxI, it_lst, it_tupD, it_strD, en_lst, en_tup, fr_gN, wipeD, go_inTab, go_notInTab, go_tab, go_lc2, go_par2, go_par3, go_asg, go_isB, go_tell, go_kget, go_notB, go_slStep, go_slStepT, go_dictZip, go_setEq, List.set_cons_zero, List.set_cons_succ, true_and]
          rw [isi_bl]
          refine ⟨_, rfl, ?_⟩
          rw [if_neg (by decide)]
          refine law_is_sum_ok pw (by decide) ww ?_
          rw [ne_bl]
          refine ⟨_, rfl, ?_⟩
          rw [if_neg (by simp), go_shQ pw (by decide) (by decide) ww, go_neS, decide_eq_true rfl]
          refine ⟨_, rfl, ?_⟩
          rw [if_neg (by decide), go_next]
          exact ⟨fun x hx => hw x (List.mem_cons_of_mem _ hx), rfl, _, _, _, rfl⟩
        · rintro env M2 ⟨-, rfl, x8, x10, x11, rfl⟩
          exact ⟨trivial, by omega, T ++ [Cell.lst things], hd2.mono (by rw [List.length_nil]; omega), _, _, _, _, _, _, _, _, _, _, rfl⟩
      · omega
    · rintro env M' ⟨-, T, hd, x2, x3, x4, x5, x6, x7, x8, x9, x10, x11, rfl⟩
      refine ⟨trivial, ?_⟩
      rw [go_ret]
      simp only [go_bin, go_un, go_var, go_c, go_test, go_andT, go_orT, go_notT, go_yes, go_andV, go_if, go_nil, go_cons, go_tup, go_lst, go_lstC, go_cb, go_call, go_callW, go_meth, go_noPart, go_part, go_sl, go_get, go_retN, go_lc, go_dc, go_iter, go_enum, go_rng, go_rng1, go_rng2, go_rng3, go_disp, go_pnil, go_pcons, go_bdT, go_bdF, go_ok, go_nx, go_rt, go_addI, go_addS, go_addT, go_addL, go_subI, go_mulI, go_mulL, go_modI, go_fdivI, go_powI, go_ltI, go_leI, go_gtI, go_geI, go_eqI, go_eqS, go_neI, go_neS, go_ixF, go_ixT, go_ixS, go_ixD, go_slT, go_slF, go_slR, go_slS, go_revF, go_revCF, go_revAT, go_revAL, List.getElem?_cons_zero, List.getElem?_cons_succ, List.set_cons_zero, List.set_cons_succ, List.length_cons, List.length_nil, D.int.injEq, D.bl.injEq, D.str.injEq, Option.some.injEq, exists_eq_left', go_listF, go_listT, go_tupleF, go_tupleT, go_lenF, go_lenT, go_lenS, go_isiS, go_isiI, go_intI, go_intB, go_maxI, it_lst, it_tupD, it_strD, en_lst, en_tup, fr_gN, wipeD, go_inTab, go_notInTab, go_tab, go_lc2, go_par2, go_par3, go_asg, go_isB, go_tell, go_kget, go_notB, go_slStep, go_slStepT, go_dictZip, go_setEq]
      exact fin _
  obtain ⟨d, M', e, rfl⟩ := main.ok
  exact ⟨M', e⟩
end K28
theorem PySem.Challenge.cw_pointhouse_k28_sums_holds : PySem.Challenge.rw_pointhouse_k28_sums.Holds := by
  exact K28.holds_of fun ns hn _ => K28.law_math ns hn
