import PyProof.Rows.All
import Wide.All
import OpenK.AllK
import Wide.FinOn
import HandS.ForMost
import HandS.ForExc
import HandS.TupAny
import HandS.TupLe
import HandS.Style
import HandS.Exc
import HandS.Rev
import KE.GoesEnum
import HandS.SortInts
import HandS.More
import HandS.Text
import HandS.Defaults
import HandS.HeadHook2
import HandS.IsInst
import HandS.Deep
import HandS.TupSets
import HandS.SortKw
import HandS.Dict
import HandS.Zip
import HandS.SortRule
import HandS.SetFor
import HandS.Strs
import KE.GoesSet
import HandS.HeadEnd
import HandS.ExcInit
import HandS.Nested
import HandS.ExcField
import HandS.TryMany
import KE.KExcSuper
import KE.KSuper
import KE.KDictPairs
import KE.KEqDict
import PySem.Challenge.RW_leastsofar_k03_rows_made
import HandS.Head0
import HandS.Head1
import HandS.Head2
import HandS.HeadHook1
set_option Elab.async false
set_option linter.all false
set_option maxRecDepth 100000
namespace DL
open PySem PySem.Spec PyProof.Rows L2

/-! ## data, cells, how they stand in the abstract heap -/
inductive D where
  | non | bl (b : Bool) | int (i : Int) | str (x : Str) | tup (ds : List D) | lst (ds : List D) | rl (ds : List D) | cell (a : Addr) | val (v : V) | exn (a dd : Addr) (what : D) | pt (ds : List D)

inductive Ct where
  | lst (ds : List D)
  | dict (kvs : List (Key × D))
  | obj (C : Addr) (fs : List (Str × D))
  | fdict (o : Obj) (ws : List (Key × V)) (kvs : List (Key × D))

abbrev Cs := Addr → Option Ct
abbrev EnvD := List (Option D)

mutual
inductive Dt (K : PySem.W.Frag) (B : Hp) : V → D → Prop
  | non : Dt K B .non .non
  | bl (b : Bool) : Dt K B (.bl b) (.bl b)
  | int (i : Int) : Dt K B (.int i) (.int i)
  | str (x : Str) : Dt K B (.str x) (.str x)
  | tup {a : Addr} {xs : List V} {ds : List D} : SqT K B a xs → DtA K B xs ds → Dt K B (.ref a) (.tup ds)
  | lst {a : Addr} {xs : List V} {ds : List D} : B a = some (.lst xs) → DtA K B xs ds → Dt K B (.ref a) (.lst ds)
  | rl {a : Addr} {xs : List V} {ds : List D} : SqL K B a xs → DtA K B xs ds → Dt K B (.ref a) (.rl ds)
  | cell (a : Addr) : Dt K B (.ref a) (.cell a)
  | val (v : V) : Dt K B v (.val v)
  | exn {a dd : Addr} {v : V} {what : D} : B dd = some (.xd [("what", v)]) → Dt K B v what → Dt K B (.ref a) (.exn a dd what)
  | pt {a : Addr} {o : Obj} {xs : List V} {ds : List D} : B a = some (.frz o (.tup xs)) → o.cls = .type "tuple" → o.dict = none → DtA K B xs ds → Dt K B (.ref a) (.pt ds)
inductive DtA (K : PySem.W.Frag) (B : Hp) : List V → List D → Prop
  | nil : DtA K B [] []
  | cons {v : V} {vs : List V} {d : D} {ds : List D} : Dt K B v d → DtA K B vs ds → DtA K B (v :: vs) (d :: ds)
end

section
variable {K : PySem.W.Frag} {B B' : Hp}
theorem same_rd {a : Addr} {u : HO} (e : Same B B') (h : Rd B a u) : Rd B' a u := by
  rcases h with h | ⟨o, h⟩
  · exact .inl (e _ _ h)
  · exact .inr ⟨o, e _ _ h⟩
theorem same_l {a : Addr} {xs : List V} (e : Same B B') (h : SqL K B a xs) : SqL K B' a xs := h.elim (fun h => .inl (same_rd e h)) .inr
theorem same_t {a : Addr} {xs : List V} (e : Same B B') (h : SqT K B a xs) : SqT K B' a xs := h.elim (fun h => .inl (same_rd e h)) .inr
mutual
theorem Dt.mono (e : Same B B') : ∀ {v : V} {d : D}, Dt K B v d → Dt K B' v d
  | _, _, .non => .non
  | _, _, .bl b => .bl b
  | _, _, .int i => .int i
  | _, _, .str x => .str x
  | _, _, .tup h t => .tup (same_t e h) (DtA.mono e t)
  | _, _, .lst h t => .lst (e _ _ h) (DtA.mono e t)
  | _, _, .rl h t => .rl (same_l e h) (DtA.mono e t)
  | _, _, .cell a => .cell a
  | _, _, .val v => .val v
  | _, _, .exn h t => .exn (e _ _ h) (Dt.mono e t)
  | _, _, .pt h c d t => .pt (e _ _ h) c d (DtA.mono e t)
theorem DtA.mono (e : Same B B') : ∀ {vs : List V} {ds : List D}, DtA K B vs ds → DtA K B' vs ds
  | _, _, .nil => .nil
  | _, _, .cons h t => .cons (Dt.mono e h) (DtA.mono e t)
end
theorem DtA.length : ∀ {vs : List V} {ds : List D}, DtA K B vs ds → vs.length = ds.length
  | _, _, .nil => rfl
  | _, _, .cons _ t => congrArg (· + 1) t.length
theorem DtA.get : ∀ {vs : List V} {ds : List D}, DtA K B vs ds → ∀ {i : Nat} {d : D}, ds[i]? = some d → ∃ v, vs[i]? = some v ∧ Dt K B v d
  | _, _, .nil, i, d, h => by simp at h
  | _, _, .cons h t, 0, d, e => by simp at e; subst e; exact ⟨_, rfl, h⟩
  | _, _, .cons h t, i + 1, d, e => by simpa using t.get (i := i) (by simpa using e)
theorem DtA.getV : ∀ {vs : List V} {ds : List D}, DtA K B vs ds → ∀ {i : Nat} {v : V}, vs[i]? = some v → ∃ d, ds[i]? = some d ∧ Dt K B v d
  | _, _, .nil, i, d, h => by simp at h
  | _, _, .cons h t, 0, d, e => by simp at e; subst e; exact ⟨_, rfl, h⟩
  | _, _, .cons h t, i + 1, d, e => by simpa using t.getV (i := i) (by simpa using e)
theorem DtA.append : ∀ {vs ws : List V} {ds es : List D}, DtA K B vs ds → DtA K B ws es → DtA K B (vs ++ ws) (ds ++ es)
  | _, _, _, _, .nil, s => s
  | _, _, _, _, .cons h t, s => .cons h (t.append s)
theorem DtA.take : ∀ {vs : List V} {ds : List D} (n : Nat), DtA K B vs ds → DtA K B (vs.take n) (ds.take n)
  | _, _, 0, _ => .nil
  | _, _, _ + 1, .nil => .nil
  | _, _, n + 1, .cons h t => .cons h (t.take n)
theorem DtA.drop : ∀ {vs : List V} {ds : List D} (n : Nat), DtA K B vs ds → DtA K B (vs.drop n) (ds.drop n)
  | _, _, 0, h => h
  | _, _, _ + 1, .nil => .nil
  | _, _, n + 1, .cons _ t => t.drop n
theorem DtA.set {v : V} {d : D} (h : Dt K B v d) : ∀ {vs : List V} {ds : List D} (n : Nat), DtA K B vs ds → DtA K B (vs.set n v) (ds.set n d)
  | _, _, _, .nil => .nil
  | _, _, 0, .cons _ t => .cons h t
  | _, _, n + 1, .cons g t => .cons g (DtA.set h n t)
theorem DtA.reverse {vs : List V} {ds : List D} (h : DtA K B vs ds) : DtA K B vs.reverse ds.reverse := by
  induction vs generalizing ds with
  | nil => cases h; exact .nil
  | cons v vs ih =>
    cases h with
    | cons h t =>
      rw [List.reverse_cons, List.reverse_cons]
      exact (ih t).append (.cons h .nil)
theorem DtA.eraseIdx : ∀ {vs : List V} {ds : List D} (n : Nat), DtA K B vs ds → DtA K B (vs.eraseIdx n) (ds.eraseIdx n)
  | _, _, _, .nil => .nil
  | _, _, 0, .cons _ t => t
  | _, _, n + 1, .cons g t => .cons g (t.eraseIdx n)
theorem DtA.insertIdx {v : V} {d : D} (h : Dt K B v d) {vs : List V} {ds : List D} (n : Nat) (t : DtA K B vs ds) : DtA K B (vs.take n ++ v :: vs.drop n) (ds.take n ++ d :: ds.drop n) :=
  (t.take n).append (.cons h (t.drop n))
theorem DtA.map_int : ∀ (ns : List Int), DtA K B (ns.map V.int) (ns.map D.int)
  | [] => .nil
  | n :: ns => .cons (.int n) (DtA.map_int ns)
theorem DtA.of_ints : ∀ {vs : List V} {ns : List Int}, DtA K B vs (ns.map D.int) → vs = ns.map V.int
  | _, [], .nil => rfl
  | _, n :: ns, .cons h t => by cases h; rw [DtA.of_ints t]; rfl
theorem DtA.of_bools : ∀ {vs : List V} {ns : List Bool}, DtA K B vs (ns.map D.bl) → vs = ns.map V.bl
  | _, [], .nil => rfl
  | _, n :: ns, .cons h t => by cases h; rw [DtA.of_bools t]; rfl
theorem DtA.of_strs : ∀ {vs : List V} {ns : List Str}, DtA K B vs (ns.map D.str) → vs = ns.map V.str
  | _, [], .nil => rfl
  | _, n :: ns, .cons h t => by cases h; rw [DtA.of_strs t]; rfl
end

/-- dict entries, fields -/
def KvA (K : PySem.W.Frag) (B : Hp) {κ : Type} : List (κ × V) → List (κ × D) → Prop := Paired fun p q => p.1 = q.1 ∧ Dt K B p.2 q.2
section
variable {K : PySem.W.Frag} {B B' : Hp} {κ : Type}
theorem Paired.imp {α β : Type} {F G : α → β → Prop} (f : ∀ a b, F a b → G a b) : ∀ {l : List α} {m : List β}, Paired F l m → Paired G l m
  | _, _, .nil => .nil
  | _, _, .cons r t => .cons (f _ _ r) (Paired.imp f t)
theorem KvA.mono (e : Same B B') {ws : List (κ × V)} {kvs : List (κ × D)} (h : KvA K B ws kvs) : KvA K B' ws kvs := Paired.imp (fun _ _ ⟨a, b⟩ => ⟨a, b.mono e⟩) h
theorem KvA.keys {ws : List (κ × V)} {kvs : List (κ × D)} (h : KvA K B ws kvs) : ws.map (·.1) = kvs.map (·.1) := by
  induction h with
  | nil => rfl
  | cons r _ ih => rw [List.map_cons, List.map_cons, ih, r.1]
theorem KvA.length {ws : List (κ × V)} {kvs : List (κ × D)} (h : KvA K B ws kvs) : ws.length = kvs.length := Paired.length h
theorem KvA.lookup [BEq κ] {f : κ} {ws : List (κ × V)} {kvs : List (κ × D)} (h : KvA K B ws kvs) :
    (∀ d, kvs.lookup f = some d → ∃ v, ws.lookup f = some v ∧ Dt K B v d) ∧ (kvs.lookup f = none → ws.lookup f = none) := by
  induction h with
  | nil => exact ⟨fun d h => by simp at h, fun _ => rfl⟩
  | @cons p q l m r _ ih =>
    obtain ⟨k1, v⟩ := p
    obtain ⟨k2, d⟩ := q
    obtain ⟨e, hv⟩ := r
    dsimp only at e
    subst e
    cases hk : (f == k1) with
    | true =>
      simp only [List.lookup, hk]
      exact ⟨fun d' e => ⟨v, rfl, by cases e; exact hv⟩, fun e => by cases e⟩
    | false =>
      simp only [List.lookup, hk]
      exact ih
end

def putD (f : Str) (d : D) : List (Str × D) → List (Str × D)
  | [] => [(f, d)]
  | (g, e) :: r => if g = f then (g, d) :: r else (g, e) :: putD f d r
theorem KvA.put {K : PySem.W.Frag} {B : Hp} {f : Str} {v : V} {d : D} (hv : Dt K B v d) : ∀ {ws : List (Str × V)} {fs : List (Str × D)}, KvA K B ws fs → KvA K B (putF f v ws) (putD f d fs)
  | _, _, .nil => .cons ⟨rfl, hv⟩ .nil
  | _, _, .cons (a := (g, x)) (b := (g', y)) r t => by
    obtain ⟨e, h⟩ := r
    dsimp only at e
    subst e
    unfold putF putD
    by_cases hg : g = f
    · rw [if_pos hg, if_pos hg]; exact .cons ⟨rfl, hv⟩ t
    · rw [if_neg hg, if_neg hg]; exact .cons ⟨rfl, h⟩ (KvA.put hv t)

/-! ## the state -/
def hid (H : Hp) (cs : Cs) (F : Hp) : Hp := fun a => if (cs a).isSome = true ∨ (F a).isSome = true then none else H a
def setc (cs : Cs) (a : Addr) (c : Ct) : Cs := fun b => if b = a then some c else cs b
def delc (cs : Cs) (a : Addr) : Cs := fun b => if b = a then none else cs b
theorem setc_same {cs : Cs} {a : Addr} {c : Ct} : setc cs a c a = some c := if_pos rfl
theorem setc_ne {cs : Cs} {a b : Addr} {c : Ct} (h : b ≠ a) : setc cs a c b = cs b := if_neg h
theorem delc_same {cs : Cs} {a : Addr} : delc cs a a = none := if_pos rfl
theorem delc_ne {cs : Cs} {a b : Addr} (h : b ≠ a) : delc cs a b = cs b := if_neg h
theorem setc_setc {cs : Cs} {a : Addr} {c d : Ct} : setc (setc cs a c) a d = setc cs a d := by
  funext b; unfold setc; split <;> rfl
theorem delc_setc {cs : Cs} {a : Addr} {c : Ct} (h : cs a = none) : delc (setc cs a c) a = cs := by
  funext b; unfold setc delc
  by_cases e : b = a
  · subst e; simp [h]
  · simp [e]
theorem setc_comm {cs : Cs} {a b : Addr} {c d : Ct} (h : a ≠ b) : setc (setc cs a c) b d = setc (setc cs b d) a c := by
  funext x; unfold setc
  by_cases e : x = a
  · subst e; rw [if_pos rfl, if_neg h, if_pos rfl]
  · rw [if_neg e]; split <;> rfl
theorem delc_comm {cs : Cs} {a b : Addr} {c : Ct} (h : a ≠ b) : delc (setc cs a c) b = setc (delc cs b) a c := by
  funext x; unfold setc delc
  by_cases e : x = a
  · subst e; simp [h]
  · by_cases e2 : x = b
    · simp [e2, Ne.symm h]
    · simp [e, e2]
theorem setc_self {cs : Cs} {a : Addr} {c : Ct} (h : cs a = some c) : setc cs a c = cs := by
  funext b; unfold setc
  by_cases e : b = a
  · rw [if_pos e, e, h]
  · rw [if_neg e]
theorem ne_of_cs {cs : Cs} {a b : Addr} {c : Ct} (h : cs a = some c) (n : cs b = none) : a ≠ b := fun e => by subst e; rw [h] at n; cases n

def CtOk (K : PySem.W.Frag) (B H : Hp) (a : Addr) : Ct → Prop
  | .lst ds => ∃ vs, H a = some (.lst vs) ∧ DtA K B vs ds
  | .dict kvs => ∃ ws, H a = some (.dK ws) ∧ KvA K B ws kvs
  | .obj C fs => ∃ dx ws, H a = some (.ins C dx ws) ∧ KvA K B ws fs
  | .fdict o ws kvs => H a = some (.frz o (.dK ws)) ∧ KvA K B ws kvs

structure Rl (K : PySem.W.Frag) (H : Hp) (cs : Cs) (F : Hp) : Prop where
  c : ∀ a x, cs a = some x → CtOk K (hid H cs F) H a x
  f : ∀ a o, F a = some o → H a = some o
  d : ∀ a x, cs a = some x → F a = none
structure Stp (H : Hp) (cs : Cs) (H' : Hp) (cs' : Cs) (F : Hp) : Prop where
  base : Same (hid H cs F) (hid H' cs' F)
abbrev EnvR (K : PySem.W.Frag) (B : Hp) : L2.St → EnvD → Prop := Paired fun so od => ∀ d, od = some d → ∃ v, so = some v ∧ Dt K B v d
structure RS (K : PySem.W.Frag) (σ : L2.St) (H : Hp) (ρ : EnvD) (cs : Cs) (F : Hp) : Prop where
  r : Rl K H cs F
  e : EnvR K (hid H cs F) σ ρ

section
variable {K : PySem.W.Frag} {H H' H1 H2 : Hp} {cs cs' cs1 cs2 : Cs} {F B B' : Hp} {σ : L2.St} {ρ : EnvD} {a p : Addr} {c c' : Ct} {o : HO}
theorem hid_ne (h1 : cs a = none) (h2 : F a = none) : hid H cs F a = H a := by unfold hid; rw [h1, h2]; simp
theorem hid_some {o : HO} (h : hid H cs F a = some o) : H a = some o ∧ cs a = none ∧ F a = none := by
  unfold hid at h
  by_cases e : (cs a).isSome = true ∨ (F a).isSome = true
  · rw [if_pos e] at h; cases h
  · rw [if_neg e] at h
    refine ⟨h, ?_, ?_⟩
    · cases q : cs a with
      | none => rfl
      | some x => rw [q] at e; simp at e
    · cases q : F a with
      | none => rfl
      | some x => rw [q] at e; simp at e
theorem hid_sub : Same (hid H cs F) H := fun a o h => (hid_some h).1
theorem Stp.refl : Stp H cs H cs F := ⟨Same.refl _⟩
theorem Stp.trans (a : Stp H cs H1 cs1 F) (b : Stp H1 cs1 H2 cs2 F) : Stp H cs H2 cs2 F := ⟨a.base.trans b.base⟩
theorem EnvR.mono (e : Same B B') (h : EnvR K B σ ρ) : EnvR K B' σ ρ := Paired.imp (fun _ _ q d z => let ⟨v, e1, e2⟩ := q d z; ⟨v, e1, e2.mono e⟩) h
theorem EnvR.get : ∀ {σ : L2.St} {ρ : EnvD}, EnvR K B σ ρ → ∀ {i : Nat} {d : D}, ρ[i]? = some (some d) → ∃ v, σ[i]? = some (some v) ∧ Dt K B v d
  | _, _, .nil, i, d, h => by simp at h
  | _, _, .cons r t, 0, d, h => by
    simp at h; subst h
    obtain ⟨v, e, q⟩ := r d rfl
    exact ⟨v, by simp [e], q⟩
  | _, _, .cons _ t, i + 1, d, h => by simpa using EnvR.get t (i := i) (by simpa using h)
theorem EnvR.set {v : V} {d : D} (q : Dt K B v d) : ∀ {σ : L2.St} {ρ : EnvD}, EnvR K B σ ρ → ∀ (i : Nat), EnvR K B (σ.set i (some v)) (ρ.set i (some d))
  | _, _, .nil, _ => .nil
  | _, _, .cons r t, 0 => .cons (fun d' e => ⟨v, rfl, by cases e; exact q⟩) t
  | _, _, .cons r t, i + 1 => .cons r (EnvR.set q t i)
theorem EnvR.unset : ∀ {σ : L2.St} {ρ : EnvD}, EnvR K B σ ρ → ∀ (i : Nat) (x : Option V), EnvR K B (σ.set i x) (ρ.set i none)
  | _, _, .nil, _, _ => .nil
  | _, _, .cons r t, 0, _ => .cons (fun d' e => by cases e) t
  | _, _, .cons r t, i + 1, x => .cons r (EnvR.unset t i x)
theorem EnvR.len (h : EnvR K B σ ρ) : σ.length = ρ.length := Paired.length h
theorem RS.step (h : RS K σ H ρ cs F) (r : Rl K H' cs' F) (s : Stp H cs H' cs' F) : RS K σ H' ρ cs' F := ⟨r, EnvR.mono s.base h.e⟩
theorem CtOk.mono {B B' H H' : Hp} (e : Same B B') (k : ∀ o, H a = some o → H' a = some o) (h : CtOk K B H a c) : CtOk K B' H' a c := by
  cases c with
  | lst ds => obtain ⟨vs, h1, h2⟩ := h; exact ⟨vs, k _ h1, h2.mono e⟩
  | dict kvs => obtain ⟨ws, h1, h2⟩ := h; exact ⟨ws, k _ h1, h2.mono e⟩
  | obj C fs => obtain ⟨dx, ws, h1, h2⟩ := h; exact ⟨dx, ws, k _ h1, h2.mono e⟩
  | fdict o ws kvs => exact ⟨k _ h.1, h.2.mono e⟩
theorem CtOk.there {B H : Hp} (h : CtOk K B H a c) : ∃ o, H a = some o := by
  cases c with
  | lst ds => obtain ⟨vs, h1, h2⟩ := h; exact ⟨_, h1⟩
  | dict kvs => obtain ⟨ws, h1, h2⟩ := h; exact ⟨_, h1⟩
  | obj C fs => obtain ⟨dx, ws, h1, h2⟩ := h; exact ⟨_, h1⟩
  | fdict o ws kvs => exact ⟨_, h.1⟩
theorem Rl.fresh (r : Rl K H cs F) (h : H p = none) : cs p = none ∧ F p = none := by
  constructor
  · cases q : cs p with
    | none => rfl
    | some x => obtain ⟨o, e⟩ := (r.c p x q).there; rw [h] at e; cases e
  · cases q : F p with
    | none => rfl
    | some x => have := r.f p x q; rw [h] at this; cases this
/-- a new immutable object -/
theorem Rl.new (r : Rl K H cs F) (h : H p = none) : Rl K (upd H p o) cs F ∧ Stp H cs (upd H p o) cs F ∧ hid (upd H p o) cs F p = some o := by
  obtain ⟨h1, h2⟩ := r.fresh h
  have s : Same (hid H cs F) (hid (upd H p o) cs F) := fun a u e => by
    obtain ⟨e1, e2, e3⟩ := hid_some e
    rw [hid_ne e2 e3, upd_ne (ne_of_none e1 h)]; exact e1
  refine ⟨⟨fun a x e => (r.c a x e).mono s fun u q => by rw [upd_ne (ne_of_none q h)]; exact q, fun a u e => by rw [upd_ne (ne_of_none (r.f a u e) h)]; exact r.f a u e, r.d⟩, ⟨s⟩, ?_⟩
  rw [hid_ne h1 h2, upd_same]
/-- a new cell -/
theorem Rl.newc (r : Rl K H cs F) (h : H p = none) (k : CtOk K (hid H cs F) (upd H p o) p c) : Rl K (upd H p o) (setc cs p c) F ∧ Stp H cs (upd H p o) (setc cs p c) F := by
  obtain ⟨h1, h2⟩ := r.fresh h
  have s : Same (hid H cs F) (hid (upd H p o) (setc cs p c) F) := fun a u e => by
    obtain ⟨e1, e2, e3⟩ := hid_some e
    have np := ne_of_none e1 h
    rw [hid_ne (by rw [setc_ne np]; exact e2) e3, upd_ne np]; exact e1
  refine ⟨⟨fun a x e => ?_, fun a u e => by rw [upd_ne (ne_of_none (r.f a u e) h)]; exact r.f a u e, fun a x e => ?_⟩, ⟨s⟩⟩
  · by_cases ea : a = p
    · subst ea; rw [setc_same] at e; cases e; exact k.mono s fun _ q => q
    · rw [setc_ne ea] at e; exact (r.c a x e).mono s fun u q => by rw [upd_ne ea]; exact q
  · by_cases ea : a = p
    · subst ea; exact h2
    · rw [setc_ne ea] at e; exact r.d a x e
theorem hid_upd (h : cs a = some c) : hid (upd H a o) (setc cs a c') F = hid H cs F := by
  funext b; unfold hid
  by_cases e : b = a
  · subst e; rw [setc_same, h]; simp
  · rw [setc_ne e, upd_ne e]
/-- a cell is written -/
theorem Rl.write (r : Rl K H cs F) (h : cs a = some c) (k : CtOk K (hid H cs F) (upd H a o) a c') : Rl K (upd H a o) (setc cs a c') F ∧ Stp H cs (upd H a o) (setc cs a c') F := by
  have s : hid (upd H a o) (setc cs a c') F = hid H cs F := hid_upd h
  refine ⟨⟨fun b x e => ?_, fun b u e => ?_, fun b x e => ?_⟩, ⟨by rw [s]; exact Same.refl _⟩⟩
  · rw [s]
    by_cases ea : b = a
    · subst ea; rw [setc_same] at e; cases e; exact k
    · rw [setc_ne ea] at e; exact (r.c b x e).mono (Same.refl _) fun u q => by rw [upd_ne ea]; exact q
  · have : b ≠ a := fun z => by subst z; rw [r.d b c h] at e; cases e
    rw [upd_ne this]; exact r.f b u e
  · by_cases ea : b = a
    · subst ea; exact r.d b c h
    · rw [setc_ne ea] at e; exact r.d b x e
/-- a cell is let go -/
theorem Rl.del (r : Rl K H cs F) : Rl K H (delc cs a) F ∧ Stp H cs H (delc cs a) F := by
  have s : Same (hid H cs F) (hid H (delc cs a) F) := fun b u e => by
    obtain ⟨e1, e2, e3⟩ := hid_some e
    refine (hid_ne ?_ e3).trans e1
    by_cases z : b = a
    · rw [z, delc_same]
    · rw [delc_ne z]; exact e2
  refine ⟨⟨fun b x e => ?_, r.f, fun b x e => ?_⟩, ⟨s⟩⟩
  · by_cases z : b = a
    · rw [z, delc_same] at e; cases e
    · rw [delc_ne z] at e; exact (r.c b x e).mono s fun _ q => q
  · by_cases z : b = a
    · rw [z, delc_same] at e; cases e
    · rw [delc_ne z] at e; exact r.d b x e
/-- a frame cell more -/
theorem hid_frame (h : cs p = none) {u : HO} : hid H (setc cs p c) F = hid H cs (upd F p u) := by
  funext b; unfold hid
  by_cases e : b = p
  · subst e; rw [setc_same, upd_same]; simp
  · rw [setc_ne e, upd_ne e]
theorem Rl.toFrame (r : Rl K H (setc cs p c) F) (h : cs p = none) {u : HO} (hu : H p = some u) : Rl K H cs (upd F p u) := by
  refine ⟨fun a x e => ?_, fun a o e => ?_, fun a x e => ?_⟩
  · have np := ne_of_cs e h
    rw [← hid_frame (c := c) h]
    exact r.c a x (by rw [setc_ne np]; exact e)
  · by_cases ea : a = p
    · subst ea; rw [upd_same] at e; cases e; exact hu
    · rw [upd_ne ea] at e; exact r.f a o e
  · have np := ne_of_cs e h
    rw [upd_ne np]
    exact r.d a x (by rw [setc_ne np]; exact e)
theorem Rl.ofFrame {u : HO} (r : Rl K H cs (upd F p u)) (hF : F p = none) (k : CtOk K (hid H cs (upd F p u)) H p c) : Rl K H (setc cs p c) F ∧ cs p = none := by
  have hp : cs p = none := by
    cases q : cs p with
    | none => rfl
    | some x => have := r.d p x q; rw [upd_same] at this; cases this
  refine ⟨⟨fun a x e => ?_, fun a o e => ?_, fun a x e => ?_⟩, hp⟩
  · rw [hid_frame (c := c) (u := u) hp]
    by_cases ea : a = p
    · subst ea; rw [setc_same] at e; cases e; exact k
    · rw [setc_ne ea] at e; exact r.c a x e
  · have np : a ≠ p := fun z => by subst z; rw [hF] at e; cases e
    exact r.f a o (by rw [upd_ne np]; exact e)
  · by_cases ea : a = p
    · subst ea; exact hF
    · rw [setc_ne ea] at e
      have := r.d a x e
      rw [upd_ne ea] at this; exact this
theorem Rl.frame_same {u : HO} (r : Rl K H cs (upd F p u)) : H p = some u := r.f p u upd_same
end

/-! ## the judgements -/
structure Exn where
  C : Addr
  what : D
abbrev EK := Exn → EnvD → Cs → Prop
abbrev DE := EnvD → Cs → (D → Cs → Prop) → EK → Prop
abbrev DT := EnvD → Cs → (Bool → Cs → Prop) → EK → Prop
abbrev DA := EnvD → Cs → (List D → Cs → Prop) → EK → Prop
structure DEnds where
  nx : EnvD → Cs → Prop
  rt : D → Cs → Prop
  bk : EnvD → Cs → Prop := fun _ _ => False
  ct : EnvD → Cs → Prop := fun _ _ => False
  ex : EK := fun _ _ _ => False
abbrev DS := DEnds → EnvD → Cs → Prop

/-- the link of a wish about exceptions -/
def EL (K : PySem.W.Frag) (W : WX) (Ψ : EK) (H : Hp) (cs : Cs) (F : Hp) : Prop :=
  ∀ (x : Exn) ρ' cs' σ' H' a v, Ψ x ρ' cs' → RS K σ' H' ρ' cs' F → Stp H cs H' cs' F → hid H' cs' F a = some (.xd [("what", v)]) → Dt K (hid H' cs' F) v x.what → W (.ref x.C) (some a) σ' H'
def SimE (K : PySem.W.Frag) (W : WX) (te : TE) (w : DE) : Prop :=
  ∀ ρ cs Φ Ψ σ H F Q, w ρ cs Φ Ψ → RS K σ H ρ cs F → EL K W Ψ H cs F →
    (∀ d cs' v H', Φ d cs' → RS K σ H' ρ cs' F → Stp H cs H' cs' F → Dt K (hid H' cs' F) v d → Q v H') → te σ H Q
def SimT (K : PySem.W.Frag) (W : WX) (tt : TT) (w : DT) : Prop :=
  ∀ ρ cs Φ Ψ σ H F Q, w ρ cs Φ Ψ → RS K σ H ρ cs F → EL K W Ψ H cs F →
    (∀ b cs' H', Φ b cs' → RS K σ H' ρ cs' F → Stp H cs H' cs' F → Q b H') → tt σ H Q
def SimA (K : PySem.W.Frag) (W : WX) (ta : TA) (w : DA) : Prop :=
  ∀ ρ cs Φ Ψ σ H F Q, w ρ cs Φ Ψ → RS K σ H ρ cs F → EL K W Ψ H cs F →
    (∀ ds cs' vs H', Φ ds cs' → RS K σ H' ρ cs' F → Stp H cs H' cs' F → DtA K (hid H' cs' F) vs ds → Q vs H') → ta σ H Q
structure LE (K : PySem.W.Frag) (H : Hp) (cs : Cs) (F : Hp) (D : DEnds) (D' : Ends) : Prop where
  nx : ∀ ρ' cs' σ' H', D.nx ρ' cs' → RS K σ' H' ρ' cs' F → Stp H cs H' cs' F → D'.nx σ' H'
  rt : ∀ d cs' v H', D.rt d cs' → Rl K H' cs' F → Stp H cs H' cs' F → Dt K (hid H' cs' F) v d → D'.rt v H'
  bk : ∀ ρ' cs' σ' H', D.bk ρ' cs' → RS K σ' H' ρ' cs' F → Stp H cs H' cs' F → D'.bk σ' H'
  ct : ∀ ρ' cs' σ' H', D.ct ρ' cs' → RS K σ' H' ρ' cs' F → Stp H cs H' cs' F → D'.ct σ' H'
def SimS (K : PySem.W.Frag) (W : WX) (ts : TS) (w : DS) : Prop :=
  ∀ ρ cs D σ H F D', w D ρ cs → RS K σ H ρ cs F → EL K W D.ex H cs F → LE K H cs F D D' → ts D' σ H

structure QE (X : Cx) (W : WX) (e : Expr) (te : TE) (w : DE) : Prop where
  pe : PE X e te
  sim : SimE X.K W te w
structure QT (X : Cx) (W : WX) (e : Expr) (te : TT) (w : DT) : Prop where
  pe : PT X e te
  sim : SimT X.K W te w
structure QW (X : Cx) (W : WX) (e : Expr) (te : TT) (w : DT) : Prop where
  pe : PW X e te
  sim : SimT X.K W te w
structure QA (X : Cx) (W : WX) (es : List Expr) (te : TA) (w : DA) : Prop where
  pe : PA X es te
  sim : SimA X.K W te w
structure QS (X : Cx) (W : WX) (s : Stmt) (ts : TS) (w : DS) : Prop where
  pe : PS X s ts
  sim : SimS X.K W ts w
structure QSs (X : Cx) (W : WX) (s : List Stmt) (ts : TS) (w : DS) : Prop where
  pe : PSs X s ts
  sim : SimS X.K W ts w

section
variable {K : PySem.W.Frag} {W : WX} {Ψ : EK} {H H' : Hp} {cs cs' : Cs} {F : Hp} {D : DEnds} {D' : Ends}
theorem EL.step (h : EL K W Ψ H cs F) (s : Stp H cs H' cs' F) : EL K W Ψ H' cs' F := fun x ρ' cs' σ' H' a v p r q => h x ρ' cs' σ' H' a v p r (s.trans q)
theorem LE.step (h : LE K H cs F D D') (s : Stp H cs H' cs' F) : LE K H' cs' F D D' :=
  ⟨fun _ _ _ _ p r q => h.nx _ _ _ _ p r (s.trans q), fun _ _ _ _ p r q => h.rt _ _ _ _ p r (s.trans q), fun _ _ _ _ p r q => h.bk _ _ _ _ p r (s.trans q), fun _ _ _ _ p r q => h.ct _ _ _ _ p r (s.trans q)⟩
end
end DL
namespace DL
open PySem PySem.Spec PyProof.Rows L2

/-! ## reading lists and tuples -/
/-- the items of a list that stands as an object (frozen or a cell) -/
def lm (cs : Cs) : D → Option (List D)
  | .lst ds => some ds
  | .cell a => match cs a with
    | some (.lst ds) => some ds
    | _ => none
  | _ => none
/-- the items of any list or tuple -/
def sq (cs : Cs) : D → Option (List D)
  | .lst ds => some ds
  | .tup ds => some ds
  | .rl ds => some ds
  | .cell a => match cs a with
    | some (.lst ds) => some ds
    | _ => none
  | _ => none
section
variable {K : PySem.W.Frag} {H : Hp} {cs : Cs} {F : Hp} {v : V} {d : D} {ds : List D}
theorem lm_ok (r : Rl K H cs F) (h : Dt K (hid H cs F) v d) (e : lm cs d = some ds) : ∃ a vs, v = .ref a ∧ H a = some (.lst vs) ∧ DtA K (hid H cs F) vs ds := by
  cases h with
  | lst h t => cases e; exact ⟨_, _, rfl, hid_sub _ _ h, t⟩
  | cell a =>
    unfold lm at e
    dsimp only at e
    split at e
    · rename_i ds' hc
      cases e
      obtain ⟨vs, h1, h2⟩ := r.c a _ hc
      exact ⟨a, vs, rfl, h1, h2⟩
    · cases e
  | _ => cases e
theorem sq_ok (r : Rl K H cs F) (h : Dt K (hid H cs F) v d) (e : sq cs d = some ds) : ∃ a vs, v = .ref a ∧ (SqL K H a vs ∨ SqT K H a vs) ∧ DtA K (hid H cs F) vs ds := by
  cases h with
  | lst h t => cases e; exact ⟨_, _, rfl, .inl (SqL.of (hid_sub _ _ h)), t⟩
  | tup h t => cases e; exact ⟨_, _, rfl, .inr (same_t hid_sub h), t⟩
  | rl h t => cases e; exact ⟨_, _, rfl, .inl (same_l hid_sub h), t⟩
  | cell a =>
    unfold sq at e
    dsimp only at e
    split at e
    · rename_i ds' hc
      cases e
      obtain ⟨vs, h1, h2⟩ := r.c a _ hc
      exact ⟨a, vs, rfl, .inl (SqL.of h1), h2⟩
    · cases e
  | _ => cases e
end
theorem sq_of_lm {cs : Cs} {d : D} {ds : List D} (e : lm cs d = some ds) : sq cs d = some ds := by
  cases d <;> first | exact e | (unfold lm at e; cases e)
theorem sq_cell {cs : Cs} {a : Addr} {ds : List D} (e : cs a = some (.lst ds)) : sq cs (.cell a) = some ds := by
  unfold sq; dsimp only; rw [e]
theorem lm_cell {cs : Cs} {a : Addr} {ds : List D} (e : cs a = some (.lst ds)) : lm cs (.cell a) = some ds := by
  unfold lm; dsimp only; rw [e]

/-! ## how a new list is held: frozen, or a cell -/
abbrev NewM := List D → Cs → (D → Cs → Prop) → Prop
def nF : NewM := fun ds cs Φ => Φ (.lst ds) cs
def nC : NewM := fun ds cs Φ => ∀ p, cs p = none → Φ (.cell p) (setc cs p (.lst ds))
def NewOk (m : NewM) : Prop := ∀ (K : PySem.W.Frag) (H : Hp) (cs : Cs) (F : Hp) (ds : List D) (p : Addr) (Φ : D → Cs → Prop), m ds cs Φ → cs p = none → Rl K H (setc cs p (.lst ds)) F →
  ∃ d cs', Φ d cs' ∧ Rl K H cs' F ∧ Stp H (setc cs p (.lst ds)) H cs' F ∧ Dt K (hid H cs' F) (.ref p) d
theorem okF : NewOk nF := fun K H cs F ds p Φ h hp r => by
  obtain ⟨r1, s1⟩ := r.del (a := p)
  rw [delc_setc hp] at r1 s1
  obtain ⟨vs, h1, t⟩ := r.c p _ setc_same
  exact ⟨_, _, h, r1, s1, .lst ((hid_ne hp (r.d p _ setc_same)).trans h1) (t.mono s1.base)⟩
theorem okC : NewOk nC := fun K H cs F ds p Φ h hp r => ⟨_, _, h p hp, r, .refl, .cell p⟩
theorem NewOk.new {m : NewM} (hm : NewOk m) (K : PySem.W.Frag) (H : Hp) (cs : Cs) (F : Hp) (ds : List D) (vs : List V) (p : Addr) (Φ : D → Cs → Prop) (h : m ds cs Φ) (r : Rl K H cs F) (t : DtA K (hid H cs F) vs ds) (hp : H p = none) :
    ∃ d cs', Φ d cs' ∧ Rl K (upd H p (.lst vs)) cs' F ∧ Stp H cs (upd H p (.lst vs)) cs' F ∧ Dt K (hid (upd H p (.lst vs)) cs' F) (.ref p) d := by
  obtain ⟨r1, s1⟩ := r.newc (o := .lst vs) (c := .lst ds) hp ⟨vs, upd_same, t⟩
  obtain ⟨d, cs', q, r2, s2, t2⟩ := hm K _ cs F ds p Φ h (r.fresh hp).1 r1
  exact ⟨d, cs', q, r2, s1.trans s2, t2⟩
/-- a new tuple -/
theorem Rl.tup {K : PySem.W.Frag} {H : Hp} {cs : Cs} {F : Hp} {vs : List V} {ds : List D} {p : Addr} (r : Rl K H cs F) (t : DtA K (hid H cs F) vs ds) (hp : H p = none) :
    Rl K (upd H p (.tup vs)) cs F ∧ Stp H cs (upd H p (.tup vs)) cs F ∧ Dt K (hid (upd H p (.tup vs)) cs F) (.ref p) (.tup ds) := by
  obtain ⟨r1, s1, e⟩ := r.new (o := .tup vs) hp
  exact ⟨r1, s1, .tup (SqT.of e) (t.mono s1.base)⟩

/-! ## names and constants -/
def dVar (i : Nat) : DE := fun ρ cs Φ _ => match ρ[i]? with
  | some (some d) => Φ d cs
  | _ => False
def dC (d : D) : DE := fun _ cs Φ _ => Φ d cs
section
variable {X : Cx} {W : WX} {i : Nat} {x : Str} {pos : Pos}
theorem sim_var {K : PySem.W.Frag} : SimE K W (tVar i) (dVar i) := fun ρ cs Φ Ψ σ H F Q h R L k => by
  unfold dVar at h
  split at h
  · rename_i d e
    obtain ⟨v, e1, q⟩ := R.e.get e
    exact ⟨v, e1, k d cs v H h R .refl q⟩
  · exact h.elim
theorem qe_var (h : PE X (.Name x pos) (tVar i)) : QE X W (.Name x pos) (tVar i) (dVar i) := ⟨h, sim_var⟩
theorem sim_c {K : PySem.W.Frag} {v : V} {d : D} (q : ∀ B, Dt K B v d) : SimE K W (tC v) (dC d) := fun ρ cs Φ Ψ σ H F Q h R L k => k d cs v H h R .refl (q _)
theorem qe_int {n : Int} {j : Nat} : QE X W (.Constant (.int n) j pos) (tC (.int n)) (dC (.int n)) := ⟨pe_int, sim_c fun _ => .int n⟩
theorem qe_bl {b : Bool} {j : Nat} : QE X W (.Constant (.bool b) j pos) (tC (.bl b)) (dC (.bl b)) := ⟨pe_bl, sim_c fun _ => .bl b⟩
theorem qe_non {j : Nat} : QE X W (.Constant .none j pos) (tC .non) (dC .non) := ⟨pe_non, sim_c fun _ => .non⟩
theorem qe_str {s : Str} {j : Nat} : QE X W (.Constant (.str s) j pos) (tC (.str s)) (dC (.str s)) := ⟨pe_str, sim_c fun _ => .str s⟩
/-- a module's constant: a number, a text -/
theorem qe_gint {n : Int} {t : Tok} (hg : Gl X x) (hm : X.mg x = some (.int n t)) (hd : (x == ("__debug__" : Str)) = false := by decide) : QE X W (.Name x pos) (tC (.int n)) (dC (.int n)) := ⟨pe_glob hg hm ⟨_, rfl⟩ hd, sim_c fun _ => .int n⟩
theorem qe_gstr {s : Str} {t : Tok} (hg : Gl X x) (hm : X.mg x = some (.str s t)) (hd : (x == ("__debug__" : Str)) = false := by decide) : QE X W (.Name x pos) (tC (.str s)) (dC (.str s)) := ⟨pe_glob hg hm ⟨_, rfl⟩ hd, sim_c fun _ => .str s⟩
end

/-! ## operators by values -/
abbrev DR := D → D → Cs → (D → Cs → Prop) → Prop
def SimR (K : PySem.W.Frag) (r : R2) (w : DR) : Prop := ∀ x y d e H cs F Φ Q, w d e cs Φ → Rl K H cs F → Dt K (hid H cs F) x d → Dt K (hid H cs F) y e →
  (∀ z cs' v H', Φ z cs' → Rl K H' cs' F → Stp H cs H' cs' F → Dt K (hid H' cs' F) v z → Q v H') → r x y H Q
def dOp (w : DR) (wa wb : DE) : DE := fun ρ cs Φ Ψ => wa ρ cs (fun x cs1 => wb ρ cs1 (fun y cs2 => w x y cs2 Φ) Ψ) Ψ
section
variable {X : Cx} {W : WX} {K : PySem.W.Frag} {a b : Expr} {ta tb : TE} {wa wb : DE} {r : R2} {w : DR} {pos : Pos}
theorem sim_op (hr : SimR K r w) (ha : SimE K W ta wa) (hb : SimE K W tb wb) : SimE K W (tOp r ta tb) (dOp w wa wb) := fun ρ cs Φ Ψ σ H F Q h R L k =>
  ha ρ cs _ Ψ σ H F _ h R L fun x cs1 v H1 h1 R1 s1 q1 => hb ρ cs1 _ Ψ σ H1 F _ h1 R1 (L.step s1) fun y cs2 u H2 h2 R2' s2 q2 =>
    hr v u x y H2 cs2 F Φ Q h2 R2'.r (q1.mono s2.base) q2 fun z cs3 v3 H3 h3 r3 s3 q3 => k z cs3 v3 H3 h3 (R.step r3 ((s1.trans s2).trans s3)) ((s1.trans s2).trans s3) q3
theorem qe_op {op : Operator} (ho : OpR X (binaryOp op) r) (hr : SimR X.K r w) (ha : QE X W a ta wa) (hb : QE X W b tb wb) : QE X W (.BinOp a op b pos) (tOp r ta tb) (dOp w wa wb) := ⟨pe_op ho ha.pe hb.pe, sim_op hr ha.sim hb.sim⟩
theorem qe_cmp {op : CmpOp} (ho : OpR X (compareOp op) r) (hr : SimR X.K r w) (ha : QE X W a ta wa) (hb : QE X W b tb wb) (hm : behindInMarks op b = false) : QE X W (.Compare a [op] [b] pos) (tOp r ta tb) (dOp w wa wb) :=
  ⟨pe_cmpR ho ha.pe hb.pe hm, sim_op hr ha.sim hb.sim⟩
theorem qe_ix (ho : IxR X r) (hr : SimR X.K r w) (ha : QE X W a ta wa) (hb : QE X W b tb wb) (hs : PlainIx b) : QE X W (.Subscript a b pos) (tOp r ta tb) (dOp w wa wb) := ⟨pe_ix ho ha.pe hb.pe hs, sim_op hr ha.sim hb.sim⟩
theorem SimR.or1 {r r' : R2} (h : SimR K r w) : SimR K (fun x y H Q => r x y H Q ∨ r' x y H Q) w := fun x y d e H cs F Φ Q h1 h2 h3 h4 h5 => .inl (h x y d e H cs F Φ Q h1 h2 h3 h4 h5)
end

/-- + -/
def wAdd (m : NewM) : DR
  | .int i, .int j, cs, Φ => Φ (.int (i + j)) cs
  | .str x, .str y, cs, Φ => x.length + y.length ≤ 16777216 ∧ Φ (.str (x ++ y)) cs
  | .tup xs, .tup ys, cs, Φ => xs.length + ys.length ≤ 16777216 ∧ Φ (.tup (xs ++ ys)) cs
  | .lst xs, .lst ys, cs, Φ => xs.length + ys.length ≤ 16777216 ∧ m (xs ++ ys) cs Φ
  | .lst xs, .cell b, cs, Φ => ∃ ys, cs b = some (.lst ys) ∧ xs.length + ys.length ≤ 16777216 ∧ m (xs ++ ys) cs Φ
  | .cell a, .lst ys, cs, Φ => ∃ xs, cs a = some (.lst xs) ∧ xs.length + ys.length ≤ 16777216 ∧ m (xs ++ ys) cs Φ
  | .cell a, .cell b, cs, Φ => ∃ xs ys, cs a = some (.lst xs) ∧ cs b = some (.lst ys) ∧ xs.length + ys.length ≤ 16777216 ∧ m (xs ++ ys) cs Φ
  | _, _, _, _ => False
def rAddS2 : R2 := fun x y H Q => ∃ i j, x = .str i ∧ y = .str j ∧ i.length + j.length ≤ sizeLine ∧ Q (.str (i ++ j)) H
def rAddAll (K : PySem.W.Frag) : R2 := fun x y H Q => (rI0 fun i j => .int (i + j)) x y H Q ∨ (rAddS2 x y H Q ∨ (rCat x y H Q ∨ rCatA K x y H Q))
theorem op_addAll {X : Cx} : OpR X (binaryOp .Add) (rAddAll X.K) := op_add.or (OpR.or (r := rAddS2) op_add_str (op_cat.or op_catA))
theorem sz {n : Nat} (h : n ≤ 16777216) : n ≤ sizeLine := by rw [sizeLine_eq]; exact h
theorem szl {n : Nat} (h : n < 16777216) : n < sizeLine := by rw [sizeLine_eq]; exact h
theorem cat_sim {K : PySem.W.Frag} {m : NewM} (hm : NewOk m) {x y : V} {d e : D} {H : Hp} {cs : Cs} {F : Hp} {Φ : D → Cs → Prop} {Q : VK} {xs ys : List D} (e1 : lm cs d = some xs) (e2 : lm cs e = some ys) (hl : xs.length + ys.length ≤ 16777216) (h : m (xs ++ ys) cs Φ)
    (r : Rl K H cs F) (h1 : Dt K (hid H cs F) x d) (h2 : Dt K (hid H cs F) y e) (k : ∀ z cs' v H', Φ z cs' → Rl K H' cs' F → Stp H cs H' cs' F → Dt K (hid H' cs' F) v z → Q v H') : rCat x y H Q := by
  obtain ⟨a, vs, rfl, ha, ta⟩ := lm_ok r h1 e1
  obtain ⟨b, us, rfl, hb, tb⟩ := lm_ok r h2 e2
  refine ⟨a, b, vs, us, rfl, rfl, ha, hb, by rw [ta.length, tb.length]; exact sz hl, fun p hp => ?_⟩
  obtain ⟨z, cs', hz, r1, s1, q1⟩ := hm.new K H cs F _ _ p Φ h r (ta.append tb) hp
  exact k z cs' _ _ hz r1 s1 q1
theorem simAdd {K : PySem.W.Frag} {m : NewM} (hm : NewOk m) : SimR K (rAddAll K) (wAdd m) := fun x y d e H cs F Φ Q h r h1 h2 k => by
  cases d with
  | int i =>
    cases e with
    | int j => cases h1; cases h2; exact .inl ⟨i, j, rfl, rfl, k _ cs _ H h r .refl (.int _)⟩
    | _ => exact h.elim
  | str s =>
    cases e with
    | str s2 => cases h1; cases h2; exact .inr (.inl ⟨_, _, rfl, rfl, sz h.1, k _ cs _ H h.2 r .refl (.str _)⟩)
    | _ => exact h.elim
  | tup xs =>
    cases e with
    | tup ys =>
      cases h1 with
      | tup sa ta =>
      cases h2 with
      | tup sb tb =>
      obtain ⟨hl, h⟩ := h
      refine .inr (.inr (.inr ⟨_, _, _, _, rfl, rfl, same_t hid_sub sa, same_t hid_sub sb, ?_, ?_, ?_, ?_⟩))
      · rw [ta.length, tb.length]; exact sz hl
      · intro z
        subst z
        cases ta
        exact k _ cs _ H h r .refl (.tup sb tb)
      · intro _ z
        subst z
        cases tb
        refine k _ cs _ H h r .refl (.tup sa ?_)
        rw [List.append_nil]; exact ta
      · intro _ _ p hp
        obtain ⟨r1, s1, q1⟩ := r.tup (ta.append tb) hp
        exact k _ cs _ _ h r1 s1 q1
    | _ => exact h.elim
  | lst xs =>
    cases e with
    | lst ys => exact .inr (.inr (.inl (cat_sim hm rfl rfl h.1 h.2 r h1 h2 k)))
    | cell b => obtain ⟨ys, e2, hl, h⟩ := h; exact .inr (.inr (.inl (cat_sim hm rfl (lm_cell e2) hl h r h1 h2 k)))
    | _ => exact h.elim
  | cell a =>
    cases e with
    | lst ys => obtain ⟨xs, e1, hl, h⟩ := h; exact .inr (.inr (.inl (cat_sim hm (lm_cell e1) rfl hl h r h1 h2 k)))
    | cell b => obtain ⟨xs, ys, e1, e2, hl, h⟩ := h; exact .inr (.inr (.inl (cat_sim hm (lm_cell e1) (lm_cell e2) hl h r h1 h2 k)))
    | _ => exact h.elim
  | _ => exact h.elim
/-- ints with a condition -/
def wI (C : Int → Int → Prop) (g : Int → Int → D) : DR
  | .int i, .int j, cs, Φ => C i j ∧ Φ (g i j) cs
  | _, _, _, _ => False
def wI0 (g : Int → Int → D) : DR
  | .int i, .int j, cs, Φ => Φ (g i j) cs
  | _, _, _, _ => False
section
variable {K : PySem.W.Frag} {C : Int → Int → Prop} {g : Int → Int → V} {g' : Int → Int → D}
theorem simI (hg : ∀ B i j, Dt K B (g i j) (g' i j)) : SimR K (rI C g) (wI C g') := fun x y d e H cs F Φ Q h r h1 h2 k => by
  cases d with
  | int i =>
    cases e with
    | int j => cases h1; cases h2; exact ⟨i, j, rfl, rfl, h.1, k _ cs _ H h.2 r .refl (hg _ i j)⟩
    | _ => exact h.elim
  | _ => exact h.elim
theorem simI0 (hg : ∀ B i j, Dt K B (g i j) (g' i j)) : SimR K (rI0 g) (wI0 g') := fun x y d e H cs F Φ Q h r h1 h2 k => by
  cases d with
  | int i =>
    cases e with
    | int j => cases h1; cases h2; exact ⟨i, j, rfl, rfl, k _ cs _ H h r .refl (hg _ i j)⟩
    | _ => exact h.elim
  | _ => exact h.elim
end
def wSub : DR := wI0 fun i j => .int (i - j)
def wMod : DR := wI (fun _ j => 0 < j) fun i j => .int (i % j)
def wDiv : DR := wI CDiv fun i j => .int (i / j)
def wPow : DR := wI CPow fun i j => .int (i ^ j.toNat)
def wLt : DR := wI0 fun i j => .bl (decide (i < j))
def wLe : DR := wI0 fun i j => .bl (decide (i ≤ j))
def wGt : DR := wI0 fun i j => .bl (decide (j < i))
def wGe : DR := wI0 fun i j => .bl (decide (j ≤ i))
/-- *: ints; a list times a number -/
def wMul (m : NewM) : DR
  | .int i, .int j, cs, Φ => CMul i j ∧ Φ (.int (i * j)) cs
  | .lst xs, .int k, cs, Φ => 0 ≤ k ∧ k < 2 ^ 60 ∧ xs.length * k.toNat ≤ 16777216 ∧ m (List.replicate k.toNat xs).flatten cs Φ
  | _, _, _, _ => False
def rMulAll : R2 := fun x y H Q => (rI CMul fun i j => .int (i * j)) x y H Q ∨ rRep x y H Q
theorem op_mulAll {X : Cx} : OpR X (binaryOp .Mult) rMulAll := op_mul.or op_rep
theorem DtA.rep {K : PySem.W.Frag} {B : Hp} {vs : List V} {ds : List D} (h : DtA K B vs ds) : ∀ k : Nat, DtA K B (List.replicate k vs).flatten (List.replicate k ds).flatten
  | 0 => .nil
  | k + 1 => by rw [List.replicate_succ, List.replicate_succ, List.flatten_cons, List.flatten_cons]; exact h.append (DtA.rep h k)
theorem simMul {K : PySem.W.Frag} {m : NewM} (hm : NewOk m) : SimR K rMulAll (wMul m) := fun x y d e H cs F Φ Q h r h1 h2 k => by
  cases d with
  | int i =>
    cases e with
    | int j => cases h1; cases h2; exact .inl ⟨i, j, rfl, rfl, h.1, k _ cs _ H h.2 r .refl (.int _)⟩
    | _ => exact h.elim
  | lst xs =>
    cases e with
    | int n =>
      cases h2
      obtain ⟨a, vs, rfl, ha, ta⟩ := lm_ok (ds := xs) r h1 rfl
      obtain ⟨n0, n1, hl, h⟩ := h
      refine .inr ⟨a, n, vs, rfl, rfl, ha, by omega, by omega, by rw [ta.length]; exact sz hl, fun p hp => ?_⟩
      obtain ⟨z, cs', hz, r1, s1, q1⟩ := hm.new K H cs F _ _ p Φ h r (ta.rep _) hp
      exact k z cs' _ _ hz r1 s1 q1
    | _ => exact h.elim
  | _ => exact h.elim

/-! ## equality -/
mutual
def deq : D → D → Bool
  | .non, .non => true
  | .bl a, .bl b => a == b
  | .bl a, .int j => (if a then 1 else 0) == j
  | .int i, .bl b => i == (if b then 1 else 0)
  | .int i, .int j => i == j
  | .str x, .str y => x == y
  | .tup xs, .tup ys => deqs xs ys
  | .lst xs, .lst ys => deqs xs ys
  | _, _ => false
def deqs : List D → List D → Bool
  | [], [] => true
  | x :: xs, y :: ys => deq x y && deqs xs ys
  | _, _ => false
end
mutual
def pyd : D → PyData
  | .bl b => .bool b
  | .int i => .int i
  | .str x => .str x
  | .tup ds => .tuple (pyds ds)
  | .lst ds => .list (pyds ds)
  | _ => .none
def pyds : List D → List PyData
  | [] => []
  | d :: ds => pyd d :: pyds ds
end
/-- data without cells, n deep at most; its texts are texts -/
def Shal : Nat → D → Prop
  | _, .non => True
  | _, .bl _ => True
  | _, .int _ => True
  | _, .str x => PyData.canLay0 (.str x) = true
  | 0, _ => False
  | n + 1, .tup ds => ∀ d ∈ ds, Shal n d
  | n + 1, .lst ds => ∀ d ∈ ds, Shal n d
  | _, _ => False
theorem shal_int {n : Nat} {i : Int} : Shal n (.int i) := by cases n <;> exact trivial
theorem shal_bl {n : Nat} {i : Bool} : Shal n (.bl i) := by cases n <;> exact trivial
theorem shal_non {n : Nat} : Shal n .non := by cases n <;> exact trivial
theorem shal_str {n : Nat} {x : Str} (h : PyData.canLay0 (.str x) = true) : Shal n (.str x) := by cases n <;> exact h
theorem shal_tup {n : Nat} {ds : List D} (h : ∀ d ∈ ds, Shal n d) : Shal (n + 1) (.tup ds) := h
theorem shal_lst {n : Nat} {ds : List D} (h : ∀ d ∈ ds, Shal n d) : Shal (n + 1) (.lst ds) := h
theorem pyds_depth : ∀ {ds : List D} {n : Nat}, (∀ d ∈ ds, (pyd d).depth ≤ n) → PyData.depthAll (pyds ds) ≤ n
  | [], n, _ => Nat.zero_le _
  | d :: ds, n, h => Nat.max_le.mpr ⟨h d (List.mem_cons_self ..), pyds_depth fun x hx => h x (List.mem_cons_of_mem _ hx)⟩
theorem pyds_lay : ∀ {ds : List D}, (∀ d ∈ ds, PyData.canLay0 (pyd d) = true) → PyData.canLayAll0 (pyds ds) = true
  | [], _ => rfl
  | d :: ds, h => by
    show (PyData.canLay0 (pyd d) && PyData.canLayAll0 (pyds ds)) = true
    rw [h d (List.mem_cons_self ..), pyds_lay fun x hx => h x (List.mem_cons_of_mem _ hx)]; rfl
theorem shal_ok {K : PySem.W.Frag} {B : Hp} : ∀ {n : Nat} {d : D}, Shal n d → (pyd d).depth ≤ n ∧ PyData.canLay0 (pyd d) = true ∧ ∀ v, Dt K B v d → Dp K B v (pyd d) := by
  intro n
  have all : ∀ {n : Nat} {ds : List D}, (∀ d ∈ ds, ∀ v, Dt K B v d → Dp K B v (pyd d)) → ∀ vs, DtA K B vs ds → DpAll K B vs (pyds ds) := by
    intro n ds
    induction ds with
    | nil => intro _ vs h; cases h; exact .nil
    | cons d ds ih =>
      intro h vs t
      cases t with
      | cons a b => exact .cons (h d (List.mem_cons_self ..) _ a) (ih (fun x hx => h x (List.mem_cons_of_mem _ hx)) _ b)
  induction n with
  | zero =>
    intro d h
    cases d with
    | non => exact ⟨Nat.le_refl _, rfl, fun v h => by cases h; exact .non⟩
    | bl b => exact ⟨Nat.le_refl _, rfl, fun v h => by cases h; exact .bl b⟩
    | int i => exact ⟨Nat.le_refl _, rfl, fun v h => by cases h; exact .int i⟩
    | str x => exact ⟨Nat.le_refl _, h, fun v h => by cases h; exact .str x⟩
    | _ => exact h.elim
  | succ n ih =>
    intro d h
    cases d with
    | non => exact ⟨Nat.zero_le _, rfl, fun v h => by cases h; exact .non⟩
    | bl b => exact ⟨Nat.zero_le _, rfl, fun v h => by cases h; exact .bl b⟩
    | int i => exact ⟨Nat.zero_le _, rfl, fun v h => by cases h; exact .int i⟩
    | str x => exact ⟨Nat.zero_le _, h, fun v h => by cases h; exact .str x⟩
    | tup ds =>
      refine ⟨?_, pyds_lay fun d hd => (ih (h d hd)).2.1, fun v q => ?_⟩
      · show PyData.depthAll (pyds ds) + 1 ≤ n + 1
        have := pyds_depth (ds := ds) (n := n) fun d hd => (ih (h d hd)).1
        omega
      · cases q with
        | tup a b => exact .tup a (all (n := n) (fun d hd => (ih (h d hd)).2.2) _ b)
    | lst ds =>
      refine ⟨?_, pyds_lay fun d hd => (ih (h d hd)).2.1, fun v q => ?_⟩
      · show PyData.depthAll (pyds ds) + 1 ≤ n + 1
        have := pyds_depth (ds := ds) (n := n) fun d hd => (ih (h d hd)).1
        omega
      · cases q with
        | lst a b => exact .lst (SqL.of a) (all (n := n) (fun d hd => (ih (h d hd)).2.2) _ b)
    | _ => exact h.elim
theorem shal_shaped (K : PySem.W.Frag) {n : Nat} {d : D} (h : Shal n d) (hn : n ≤ 60) : SeqAt.shaped (pyd d) = true := by
  have q := shal_ok (K := K) (B := fun _ => none) h
  unfold SeqAt.shaped
  rw [q.2.1, Bool.true_and]
  exact decide_eq_true (by omega)
mutual
theorem deq_py : ∀ {n m : Nat} (d e : D), Shal n d → Shal m e → PyData.eqv (pyd d) (pyd e) = deq d e
  | n, m, d, e, h, h' => by
    cases d with
    | tup xs =>
      cases n with
      | zero => exact h.elim
      | succ n =>
      cases e with
      | tup ys =>
        cases m with
        | zero => exact h'.elim
        | succ m => exact deqs_py xs ys h h'
      | _ => first | rfl | (cases m <;> exact h'.elim)
    | lst xs =>
      cases n with
      | zero => exact h.elim
      | succ n =>
      cases e with
      | lst ys =>
        cases m with
        | zero => exact h'.elim
        | succ m => exact deqs_py xs ys h h'
      | _ => first | rfl | (cases m <;> exact h'.elim)
    | rl _ => cases n <;> exact h.elim
    | cell _ => cases n <;> exact h.elim
    | val _ => cases n <;> exact h.elim
    | exn _ _ _ => cases n <;> exact h.elim
    | pt _ => cases n <;> exact h.elim
    | _ => cases e <;> first | rfl | (cases m <;> exact h'.elim)
theorem deqs_py : ∀ {n m : Nat} (ds es : List D), (∀ d ∈ ds, Shal n d) → (∀ d ∈ es, Shal m d) → PyData.eqvAll (pyds ds) (pyds es) = deqs ds es
  | n, m, [], [], _, _ => rfl
  | n, m, d :: ds, e :: es, h, h' => by
    show (PyData.eqv (pyd d) (pyd e) && PyData.eqvAll (pyds ds) (pyds es)) = (deq d e && deqs ds es)
    rw [deq_py d e (h d (List.mem_cons_self ..)) (h' e (List.mem_cons_self ..)), deqs_py ds es (fun x hx => h x (List.mem_cons_of_mem _ hx)) (fun x hx => h' x (List.mem_cons_of_mem _ hx))]
  | _, _, [], _ :: _, _, _ => rfl
  | _, _, _ :: _, [], _, _ => rfl
end
/-- == by values: two ints, two texts, two bools, None at once; else data -/
def wEqB (f : Bool → Bool) : DR
  | .int i, .int j, cs, Φ => Φ (.bl (f (decide (i = j)))) cs
  | .str x, .str y, cs, Φ => Φ (.bl (f (decide (x = y)))) cs
  | .bl x, .bl y, cs, Φ => Φ (.bl (f (decide (x = y)))) cs
  | d, e, cs, Φ => Shal 60 d ∧ Shal 60 e ∧ Φ (.bl (f (deq d e))) cs
def wEq : DR := wEqB id
def wNe : DR := wEqB not
def rEqAll (K : PySem.W.Frag) : R2 := fun x y H Q => rEq x y H Q ∨ rEqD K x y H Q
def rNeAll (K : PySem.W.Frag) : R2 := fun x y H Q => rNe x y H Q ∨ rNeD K x y H Q
theorem op_eqAll {X : Cx} (hu : X.A.units + 64 < cLine) : OpR X (compareOp .Eq) (rEqAll X.K) := op_eq.or (op_eqD hu)
theorem op_neAll {X : Cx} (hu : X.A.units + 64 < cLine) : OpR X (compareOp .NotEq) (rNeAll X.K) := op_ne.or (op_neD hu)
theorem dec_vint {i j : Int} : decide (V.int i = V.int j) = decide (i = j) := by
  by_cases h : i = j
  · subst h; simp
  · rw [decide_eq_false h, decide_eq_false fun q => h (V.int.inj q)]
theorem dec_vstr {i j : Str} : decide (V.str i = V.str j) = decide (i = j) := by
  by_cases h : i = j
  · subst h; simp
  · rw [decide_eq_false h, decide_eq_false fun q => h (V.str.inj q)]
theorem dec_vbl {i j : Bool} : decide (V.bl i = V.bl j) = decide (i = j) := by
  by_cases h : i = j
  · subst h; simp
  · rw [decide_eq_false h, decide_eq_false fun q => h (V.bl.inj q)]
theorem simEqB {K : PySem.W.Frag} {f : Bool → Bool} {r : R2} (hs : ∀ x y H (Q : VK), scal x y = true → Q (.bl (f (decide (x = y)))) H → r x y H Q)
    (hd : ∀ x y H (Q : VK) d e, Dp K H x d → Dp K H y e → SeqAt.shaped d = true → SeqAt.shaped e = true → Q (.bl (f (PyData.eqv d e))) H → r x y H Q) : SimR K r (wEqB f) := fun x y d e H cs F Φ Q h r h1 h2 k => by
  have data : (Shal 60 d ∧ Shal 60 e ∧ Φ (.bl (f (deq d e))) cs) → _ := fun ⟨a, b, c⟩ => by
    refine hd x y H Q (pyd d) (pyd e) ?_ ?_ (shal_shaped K a (Nat.le_refl _)) (shal_shaped K b (Nat.le_refl _)) ?_
    · exact (shal_ok a).2.2 x (h1.mono hid_sub)
    · exact (shal_ok b).2.2 y (h2.mono hid_sub)
    · rw [deq_py d e a b]
      exact k _ cs _ H c r .refl (.bl _)
  cases d with
  | int i =>
    cases e with
    | int j => cases h1; cases h2; exact hs _ _ _ _ rfl (by rw [dec_vint]; exact k _ cs _ H h r .refl (.bl _))
    | _ => exact data h
  | str i =>
    cases e with
    | str j => cases h1; cases h2; exact hs _ _ _ _ rfl (by rw [dec_vstr]; exact k _ cs _ H h r .refl (.bl _))
    | _ => exact data h
  | bl i =>
    cases e with
    | bl j => cases h1; cases h2; exact hs _ _ _ _ rfl (by rw [dec_vbl]; exact k _ cs _ H h r .refl (.bl _))
    | _ => exact data h
  | _ => exact data h
theorem simEq {K : PySem.W.Frag} : SimR K (rEqAll K) wEq := simEqB (fun _ _ _ _ s q => .inl ⟨s, q⟩) fun _ _ _ _ d e a b c g q => .inr ⟨d, e, a, b, c, g, q⟩
theorem simNe {K : PySem.W.Frag} : SimR K (rNeAll K) wNe := simEqB (fun _ _ _ _ s q => .inl ⟨s, q⟩) fun _ _ _ _ d e a b c g q => .inr ⟨d, e, a, b, c, g, q⟩
/-- is None, is not None -/
def wIsN (f : Bool → Bool) : DR
  | .non, .non, cs, Φ => Φ (.bl (f true)) cs
  | .val _, _, _, _ => False
  | _, .non, cs, Φ => Φ (.bl (f false)) cs
  | _, _, _, _ => False
theorem simIsN {K : PySem.W.Frag} : SimR K (fun x y H Q => y = .non ∧ Q (.bl (decide (x = .non))) H) (wIsN id) := fun x y d e H cs F Φ Q h r h1 h2 k => by
  cases e with
  | non =>
    cases h2
    refine ⟨rfl, ?_⟩
    cases h1 <;> first | exact k _ cs _ H h r .refl (.bl _) | exact h.elim
  | _ => cases d <;> exact h.elim
theorem simNotN {K : PySem.W.Frag} : SimR K (fun x y H Q => y = .non ∧ Q (.bl (!decide (x = .non))) H) (wIsN not) := fun x y d e H cs F Φ Q h r h1 h2 k => by
  cases e with
  | non =>
    cases h2
    refine ⟨rfl, ?_⟩
    cases h1 <;> first | exact k _ cs _ H h r .refl (.bl _) | exact h.elim
  | _ => cases d <;> exact h.elim

/-! ## subscripts -/
def wIx : DR := fun x y cs Φ => match y with
  | .int i => match x with
    | .str z => z.length ≤ 16777216 ∧ ∃ c, atI z.cps.toList i = some c ∧ Φ (.str ⟨#[c]⟩) cs
    | x => ∃ ds d, sq cs x = some ds ∧ atI ds i = some d ∧ Φ d cs
  | _ => False
theorem atI_dt {K : PySem.W.Frag} {B : Hp} {vs : List V} {ds : List D} {i : Int} {d : D} (t : DtA K B vs ds) (h : atI ds i = some d) : ∃ v, atI vs i = some v ∧ Dt K B v d := by
  unfold atI at h ⊢
  rw [t.length]
  cases e : ixN ds.length i with
  | none => rw [e] at h; cases h
  | some j =>
    rw [e] at h
    exact t.get h
theorem simIx {K : PySem.W.Frag} : SimR K (rIx K) wIx := fun x y d e H cs F Φ Q h r h1 h2 k => by
  cases e with
  | int i =>
    cases h2
    have other : (∃ ds d', sq cs d = some ds ∧ atI ds i = some d' ∧ Φ d' cs) → rIx K x (.int i) H Q := fun ⟨ds, d', e1, e2, q⟩ => by
      obtain ⟨a, vs, rfl, sa, ta⟩ := sq_ok r h1 e1
      obtain ⟨v, ev, qv⟩ := atI_dt ta e2
      rcases sa with sa | sa
      · exact .inl ⟨a, vs, i, v, rfl, rfl, sa, ev, k _ cs _ H q r .refl qv⟩
      · exact .inr (.inl ⟨a, vs, i, v, rfl, rfl, sa, ev, k _ cs _ H q r .refl qv⟩)
    cases d with
    | str z =>
      cases h1
      obtain ⟨hz, c, hc, q⟩ := h
      exact .inr (.inr ⟨z, i, c, rfl, rfl, sz hz, hc, k _ cs _ H q r .refl (.str _)⟩)
    | _ => exact other h
  | _ => exact h.elim
/-- slices -/
abbrev DO := EnvD → Cs → (Option Int → Cs → Prop) → EK → Prop
def SimO (K : PySem.W.Frag) (W : WX) (t : TO) (w : DO) : Prop :=
  ∀ ρ cs Φ Ψ σ H F (Q : Option Int → Hp → Prop), w ρ cs Φ Ψ → RS K σ H ρ cs F → EL K W Ψ H cs F → (∀ o cs' H', Φ o cs' → RS K σ H' ρ cs' F → Stp H cs H' cs' F → Q o H') → t σ H Q
structure QO (X : Cx) (W : WX) (e : Option Expr) (t : TO) (w : DO) : Prop where
  pe : PO X e t
  sim : SimO X.K W t w
def dNoPart : DO := fun _ cs Φ _ => Φ none cs
def dPart (w : DE) : DO := fun ρ cs Φ Ψ => w ρ cs (fun d cs' => match d with
  | .int i => Φ (some i) cs'
  | _ => False) Ψ
def cutD {α : Type} (xs : List α) (lo hi : Option Int) : List α := (xs.drop (HT.sIx xs.length 0 lo)).take (HT.sIx xs.length xs.length hi - HT.sIx xs.length 0 lo)
def wSl (m : NewM) : D → Option Int → Option Int → Cs → (D → Cs → Prop) → Prop := fun x lo hi cs Φ => match x with
  | .str z => z.length ≤ 16777216 ∧ Φ (.str (cutS z lo hi)) cs
  | .tup ds => Φ (.tup (cutD ds lo hi)) cs
  | .rl ds => m (cutD ds lo hi) cs Φ
  | x => ∃ ds, lm cs x = some ds ∧ m (cutD ds lo hi) cs Φ
def dSl (m : NewM) (wa : DE) (wl wh : DO) : DE := fun ρ cs Φ Ψ => wa ρ cs (fun x cs1 => wl ρ cs1 (fun lo cs2 => wh ρ cs2 (fun hi cs3 => wSl m x lo hi cs3 Φ) Ψ) Ψ) Ψ

theorem cut_dt {K : PySem.W.Frag} {B : Hp} {vs : List V} {ds : List D} (t : DtA K B vs ds) (lo hi : Option Int) : DtA K B (cutV vs lo hi) (cutD ds lo hi) := by
  unfold cutV cutD
  rw [t.length]
  exact (t.drop _).take _
def SimSl (K : PySem.W.Frag) (r : V → Option Int → Option Int → Hp → VK → Prop) (w : D → Option Int → Option Int → Cs → (D → Cs → Prop) → Prop) : Prop := ∀ x lo hi d H cs F Φ Q, w d lo hi cs Φ → Rl K H cs F → Dt K (hid H cs F) x d →
  (∀ z cs' v H', Φ z cs' → Rl K H' cs' F → Stp H cs H' cs' F → Dt K (hid H' cs' F) v z → Q v H') → r x lo hi H Q
def rSlAll (K : PySem.W.Frag) : V → Option Int → Option Int → Hp → VK → Prop := fun x lo hi H Q => rSlL K x lo hi H Q ∨ (rSlA K x lo hi H Q ∨ rSlS x lo hi H Q)
theorem sl_all {X : Cx} : SlR X (rSlAll X.K) := sl_list.or (sl_tupA.or sl_str)
theorem simSl {K : PySem.W.Frag} {m : NewM} (hm : NewOk m) : SimSl K (rSlAll K) (wSl m) := fun x lo hi d H cs F Φ Q h r h1 k => by
  have list : ∀ {a : Addr} {vs : List V} {ds : List D}, SqL K H a vs → DtA K (hid H cs F) vs ds → m (cutD ds lo hi) cs Φ → rSlAll K (.ref a) lo hi H Q := fun {a vs ds} sa ta h => .inl ⟨a, vs, rfl, sa, fun p hp => by
    obtain ⟨z, cs', hz, r1, s1, q1⟩ := hm.new K H cs F _ _ p Φ h r (cut_dt ta lo hi) hp
    exact k z cs' _ _ hz r1 s1 q1⟩
  cases d with
  | str z => cases h1; exact .inr (.inr ⟨z, rfl, sz h.1, k _ cs _ H h.2 r .refl (.str _)⟩)
  | tup ds =>
    cases h1 with
    | @tup a xs _ sa ta =>
    refine .inr (.inl ⟨_, _, rfl, same_t hid_sub sa, fun e => ?_, fun _ p hp => ?_⟩)
    · refine k _ cs _ H h r .refl (.tup sa ?_)
      have q := cut_dt ta lo hi
      unfold cutV at q
      rw [e.1, e.2, List.drop_zero, Nat.sub_zero, List.take_length] at q
      exact q
    · obtain ⟨r1, s1, q1⟩ := r.tup (cut_dt ta lo hi) hp
      exact k _ cs _ _ h r1 s1 q1
  | rl ds => cases h1 with | rl sa ta => exact list (same_l hid_sub sa) ta h
  | lst ds =>
    obtain ⟨ds', e, h⟩ := h
    obtain ⟨a, vs, rfl, sa, ta⟩ := lm_ok r h1 e
    exact list (SqL.of sa) ta h
  | cell a =>
    obtain ⟨ds', e, h⟩ := h
    obtain ⟨a, vs, rfl, sa, ta⟩ := lm_ok r h1 e
    exact list (SqL.of sa) ta h
  | _ => obtain ⟨ds', e, h⟩ := h; cases e
section
variable {X : Cx} {W : WX} {e : Expr} {te : TE} {we : DE} {lo hi : Option Expr} {tl th : TO} {wl wh : DO} {pos p2 : Pos}
theorem qo_none : QO X W none tNoPart dNoPart := ⟨po_none, fun ρ cs Φ Ψ σ H F Q h R L k => k _ cs H h R .refl⟩
theorem qo_some (h : QE X W e te we) : QO X W (some e) (tPart te) (dPart we) := ⟨po_some h.pe, fun ρ cs Φ Ψ σ H F Q hw R L k => h.sim ρ cs _ Ψ σ H F _ hw R L fun d cs' v H' q R' s' t => by
  cases d with
  | int i => cases t; exact ⟨i, rfl, k _ cs' H' q R' s'⟩
  | _ => exact q.elim⟩
theorem qe_slice {r : V → Option Int → Option Int → Hp → VK → Prop} {m : NewM} (hr : SlR X r) (hs : SimSl X.K r (wSl m)) (he : QE X W e te we) (hl : QO X W lo tl wl) (hu : QO X W hi th wh) : QE X W (.Subscript e (.Slice lo hi none p2) pos) (tSl r te tl th) (dSl m we wl wh) :=
  ⟨pe_slice hr he.pe hl.pe hu.pe, fun ρ cs Φ Ψ σ H F Q h R L k => he.sim ρ cs _ Ψ σ H F _ h R L fun x cs1 v H1 h1 R1 s1 t1 => hl.sim ρ cs1 _ Ψ σ H1 F _ h1 R1 (L.step s1) fun o1 cs2 H2 h2 R2' s2 =>
    hu.sim ρ cs2 _ Ψ σ H2 F _ h2 R2' (L.step (s1.trans s2)) fun o2 cs3 H3 h3 R3 s3 => hs v o1 o2 x H3 cs3 F Φ Q h3 R3.r (t1.mono (s2.trans s3).base) fun z cs4 v4 H4 h4 r4 s4 t4 =>
      k z cs4 v4 H4 h4 (R.step r4 (((s1.trans s2).trans s3).trans s4)) (((s1.trans s2).trans s3).trans s4) t4⟩
end
end DL
namespace DL
open PySem PySem.Spec PyProof.Rows L2

/-! ## dicts -/
section
variable {κ : Type} [DecidableEq κ] {δ : Type}
def vK (kvs : List (κ × δ)) (k : κ) : Option δ := (kvs.find? fun kv => decide (kv.1 = k)).map (·.2)
def pK (kvs : List (κ × δ)) (k : κ) (v : δ) : List (κ × δ) :=
  if (kvs.any fun kv => decide (kv.1 = k)) = true then kvs.map (fun kv => if kv.1 = k then (kv.1, v) else kv) else kvs ++ [(k, v)]
def xK (kvs : List (κ × δ)) (k : κ) : List (κ × δ) := kvs.filter fun kv => decide (kv.1 ≠ k)
theorem vK_cons (p : κ × δ) (r : List (κ × δ)) (k : κ) : vK (p :: r) k = if p.1 = k then some p.2 else vK r k := by
  unfold vK
  by_cases e : p.1 = k
  · simp [List.find?_cons, e]
  · simp [List.find?_cons, e]
end
def dkey : D → Option Key
  | .int i => some (.inl i)
  | .str x => some (.inr x)
  | _ => none
theorem dkey_ok {K : PySem.W.Frag} {B : Hp} {v : V} {d : D} {k : Key} (h : Dt K B v d) (e : dkey d = some k) : v = kV k := by
  cases h <;> first | (cases e; rfl) | (cases e)
section
variable {K : PySem.W.Frag} {B : Hp} {ws : List (Key × V)} {kvs : List (Key × D)}
theorem KvA.val (h : KvA K B ws kvs) (k : Key) : (∀ d, vK kvs k = some d → ∃ v, valV ws k = some v ∧ Dt K B v d) ∧ (vK kvs k = none → valV ws k = none) := by
  induction h with
  | nil => exact ⟨(fun d e => nomatch e), fun _ => rfl⟩
  | @cons p q l m r _ ih =>
    obtain ⟨e, hv⟩ := r
    rw [vK_cons]
    by_cases hk : q.1 = k
    · rw [if_pos hk, valV_pos (e.trans hk)]
      exact ⟨(fun d z => by cases z; exact ⟨_, rfl, hv⟩), (fun z => nomatch z)⟩
    · rw [if_neg hk, valV_neg (fun z => hk (e.symm.trans z))]
      exact ih
theorem KvA.any (h : KvA K B ws kvs) (k : Key) : (ws.any fun kv => decide (kv.1 = k)) = (kvs.any fun kv => decide (kv.1 = k)) := by
  induction h with
  | nil => rfl
  | cons r _ ih => rw [List.any_cons, List.any_cons, ih, r.1]
theorem KvA.app {ws' : List (Key × V)} {kvs' : List (Key × D)} (h : KvA K B ws kvs) (h' : KvA K B ws' kvs') : KvA K B (ws ++ ws') (kvs ++ kvs') := by
  induction h with
  | nil => exact h'
  | cons r _ ih => exact .cons r ih
theorem KvA.putK {v : V} {d : D} (h : KvA K B ws kvs) (k : Key) (hv : Dt K B v d) : KvA K B (L2.putK ws k v) (pK kvs k d) := by
  have m : KvA K B (ws.map fun kv => if kv.1 = k then (kv.1, v) else kv) (kvs.map fun kv => if kv.1 = k then (kv.1, d) else kv) := by
    induction h with
    | nil => exact .nil
    | cons r _ ih =>
      refine .cons ?_ ih
      obtain ⟨e, q⟩ := r
      dsimp only
      rw [e]
      split
      · exact ⟨rfl, hv⟩
      · exact ⟨e, q⟩
  unfold L2.putK pK
  rw [h.any]
  split
  · exact m
  · exact h.app (.cons ⟨rfl, hv⟩ .nil)
theorem KvA.dropK (h : KvA K B ws kvs) (k : Key) : KvA K B (L2.dropK ws k) (xK kvs k) := by
  unfold L2.dropK xK
  induction h with
  | nil => exact .nil
  | cons r _ ih =>
    rw [List.filter_cons, List.filter_cons, r.1]
    split
    · exact .cons r ih
    · exact ih
end
theorem pK_length {kvs : List (Key × D)} {k : Key} {d : D} : (pK kvs k d).length ≤ kvs.length + 1 := by
  unfold pK; split <;> simp
section
variable {X : Cx} {K : PySem.W.Frag}
/-- d[k] by values -/
def rIxD : R2 := fun x y H Q => ∃ a v, x = .ref a ∧ DGet H a y (some v) ∧ Q v H
theorem ix_dict (hu : X.A.units + 1 < cLine) : IxR X rIxD := by
  intro value slice pins s σ H x y v u Q I rx ry h hs
  obtain ⟨a, w, rfl, g, q⟩ := h
  cases rx
  have hT := dict_typeIs I g
  unfold subscriptTail
  refine wpAny_bind ?_
  rw [getitemInPython_of_ne hT.not_modules]
  refine wpAny_bind (wpAny_specialOf hT PySem.F.slot_dict_getitem.lookup ?_)
  have fin : wpAny (model X.prog X.w) X.A (subscripted slice false (.ref a) u) (fun r s₃ => wpAny (model X.prog X.w) X.A (letTemporaryGo value (.ref a) r >>= fun _ => pure r) (EP X pins σ Q) X.xe s₃) X.xe s := by
    rw [hs]
    exact wpAny_operating (d_getItem hu I g ry fun w' s' I' rw' => wpAny_bind (wpAny_letTemporaryGo (wpAny_pure ⟨w, H, I', rw', q⟩)))
  first
    | exact wpAny_pure (wpAny_bind fin)
    | exact wpAny_bind (wpAny_pure (wpAny_bind fin))
    | exact wpAny_bind fin
def rIxAll (K : PySem.W.Frag) : R2 := fun x y H Q => rIx K x y H Q ∨ rIxD x y H Q
theorem ix_all (hu : X.A.units + 1 < cLine) : IxR X (rIxAll X.K) := ix_seq.or (ix_dict hu)
/-- a[i]: texts, lists, tuples, dicts -/
def wIxA : DR := fun x y cs Φ => match x, y with
  | .str z, .int i => z.length ≤ 16777216 ∧ ∃ c, atI z.cps.toList i = some c ∧ Φ (.str ⟨#[c]⟩) cs
  | .tup ds, .int i => ∃ d, atI ds i = some d ∧ Φ d cs
  | .lst ds, .int i => ∃ d, atI ds i = some d ∧ Φ d cs
  | .rl ds, .int i => ∃ d, atI ds i = some d ∧ Φ d cs
  | .cell a, y => match cs a with
    | some (.lst ds) => match y with
      | .int i => ∃ d, atI ds i = some d ∧ Φ d cs
      | _ => False
    | some (.dict kvs) => ∃ k d, dkey y = some k ∧ vK kvs k = some d ∧ Φ d cs
    | some (.fdict _ _ kvs) => ∃ k d, dkey y = some k ∧ vK kvs k = some d ∧ Φ d cs
    | _ => False
  | _, _ => False
theorem simIxA : SimR K (rIxAll K) wIxA := fun x y d e H cs F Φ Q h r h1 h2 k => by
  have other : ∀ {i : Int} {ds : List D} {d' : D}, e = .int i → sq cs d = some ds → atI ds i = some d' → Φ d' cs → rIxAll K x y H Q := fun {i ds d'} ee e1 e2 q => by
    subst ee
    exact .inl (simIx x y d (.int i) H cs F Φ Q (by cases d <;> first | exact ⟨ds, d', e1, e2, q⟩ | cases e1) r h1 h2 k)
  cases d with
  | str z => cases e with
    | int i => exact .inl (simIx x y (.str z) (.int i) H cs F Φ Q h r h1 h2 k)
    | _ => exact h.elim
  | tup ds => cases e with
    | int i => obtain ⟨d', e2, q⟩ := h; exact other rfl rfl e2 q
    | _ => exact h.elim
  | lst ds => cases e with
    | int i => obtain ⟨d', e2, q⟩ := h; exact other rfl rfl e2 q
    | _ => exact h.elim
  | rl ds => cases e with
    | int i => obtain ⟨d', e2, q⟩ := h; exact other rfl rfl e2 q
    | _ => exact h.elim
  | cell a =>
    unfold wIxA at h
    dsimp only at h
    split at h
    · rename_i ds hc
      cases e with
      | int i => obtain ⟨d', e2, q⟩ := h; exact other rfl (sq_cell hc) e2 q
      | _ => exact h.elim
    · rename_i kvs hc
      obtain ⟨ky, d', ek, ev, q⟩ := h
      obtain ⟨ws, hw, rel⟩ := r.c a _ hc
      obtain ⟨v, hv, qv⟩ := (rel.val ky).1 d' ev
      cases h1
      rw [dkey_ok h2 ek]
      exact .inr ⟨a, v, rfl, by rw [← hv]; exact DGet.k hw, k _ cs v H q r .refl qv⟩
    · rename_i o ws kvs hc
      obtain ⟨ky, d', ek, ev, q⟩ := h
      obtain ⟨hw, rel⟩ := r.c a _ hc
      obtain ⟨v, hv, qv⟩ := (rel.val ky).1 d' ev
      cases h1
      rw [dkey_ok h2 ek]
      exact .inr ⟨a, v, rfl, by rw [← hv]; exact .inl ⟨ws, ky, .inr ⟨o, hw⟩, rfl, rfl⟩, k _ cs v H q r .refl qv⟩
    · exact h.elim
  | _ => exact h.elim

/-! ## in -/
/-- numbers, bools, texts, None -/
def flatD : D → Bool
  | .non | .bl _ | .int _ | .str _ => true
  | _ => false
theorem flatD_ok {B : Hp} {v : V} {d : D} (h : Dt K B v d) (f : flatD d = true) : flatV v = true := by
  cases h <;> first | rfl | exact (Bool.false_ne_true f).elim
theorem flatA_ok {B : Hp} : ∀ {vs : List V} {ds : List D}, DtA K B vs ds → ds.all flatD = true → vs.all flatV = true
  | _, _, .nil, _ => rfl
  | _, _, .cons h t, f => by
    rw [List.all_cons, Bool.and_eq_true] at f ⊢
    exact ⟨flatD_ok h f.1, flatA_ok t f.2⟩
theorem eqV_deq {B : Hp} {v u : V} {d e : D} (h : Dt K B v d) (h' : Dt K B u e) (f : flatD d = true) (f' : flatD e = true) : eqV v u = deq d e := by
  cases h <;> cases h' <;> first | rfl | exact (Bool.false_ne_true f).elim | exact (Bool.false_ne_true f').elim
theorem inV_deq {B : Hp} {u : V} {e : D} (h' : Dt K B u e) (f' : flatD e = true) : ∀ {vs : List V} {ds : List D}, DtA K B vs ds → ds.all flatD = true → inV u vs = ds.any fun d => deq d e
  | _, _, .nil, _ => rfl
  | _, _, .cons h t, f => by
    rw [List.all_cons, Bool.and_eq_true] at f
    unfold inV
    rw [List.any_cons, List.any_cons, eqV_deq h h' f.1 f']
    have := inV_deq h' f' t f.2
    unfold inV at this
    rw [this]
def rInD (neg : Bool) : R2 := fun x y H Q => ∃ a o, y = .ref a ∧ DGet H a x o ∧ Q (.bl (if neg then !o.isSome else o.isSome)) H
theorem op_inD (hu : X.A.units + 1 < cLine) : OpR X (compareOp .In) (rInD false) := by
  intro pins s σ H x y v u Q I rx ry h
  obtain ⟨a, o, rfl, g, q⟩ := h
  cases ry
  exact d_in hu I g rx fun s' I' => ⟨.bl o.isSome, H, I', rfl, q⟩
theorem op_notInD (hu : X.A.units + 1 < cLine) : OpR X (compareOp .NotIn) (rInD true) := by
  intro pins s σ H x y v u Q I rx ry h
  obtain ⟨a, o, rfl, g, q⟩ := h
  cases ry
  exact d_notIn hu I g rx fun s' I' => ⟨.bl (!o.isSome), H, I', rfl, q⟩
def rInS0 (neg : Bool) : R2 := fun x y H Q => ∃ i j, x = .str i ∧ y = .str j ∧ Q (.bl (if neg then !(!(Builtin.Str.occurrences j i 0 j.length 1).isEmpty) else !(Builtin.Str.occurrences j i 0 j.length 1).isEmpty)) H
def rInAll (K : PySem.W.Frag) (neg : Bool) : R2 := fun x y H Q => rIn K neg x y H Q ∨ (rInD neg x y H Q ∨ rInS0 neg x y H Q)
theorem op_inS0 : OpR X (compareOp .In) (rInS0 false) := op_in_str
theorem op_notInS0 : OpR X (compareOp .NotIn) (rInS0 true) := op_notin_str
theorem op_inAll (hu : X.A.units + 1 < cLine) : OpR X (compareOp .In) (rInAll X.K false) := op_in_seq.or ((op_inD hu).or op_inS0)
theorem op_notInAll (hu : X.A.units + 1 < cLine) : OpR X (compareOp .NotIn) (rInAll X.K true) := op_notIn_seq.or ((op_notInD hu).or op_notInS0)
/-- x in y: a list or tuple of flat things, a dict, a text -/
def wIn (f : Bool → Bool) : DR := fun x y cs Φ => match y with
  | .tup ds => flatD x = true ∧ ds.all flatD = true ∧ Φ (.bl (f (ds.any fun d => deq d x))) cs
  | .lst ds => flatD x = true ∧ ds.all flatD = true ∧ Φ (.bl (f (ds.any fun d => deq d x))) cs
  | .rl ds => flatD x = true ∧ ds.all flatD = true ∧ Φ (.bl (f (ds.any fun d => deq d x))) cs
  | .str z => match x with
    | .str u => Φ (.bl (f (!(Builtin.Str.occurrences z u 0 z.length 1).isEmpty))) cs
    | _ => False
  | .cell a => match cs a with
    | some (.lst ds) => flatD x = true ∧ ds.all flatD = true ∧ Φ (.bl (f (ds.any fun d => deq d x))) cs
    | some (.dict kvs) => ∃ k, dkey x = some k ∧ Φ (.bl (f (vK kvs k).isSome)) cs
    | _ => False
  | _ => False
theorem simIn {neg : Bool} : SimR K (rInAll K neg) (wIn fun b => if neg then !b else b) := fun x y d e H cs F Φ Q h r h1 h2 k => by
  have seq : ∀ {ds : List D}, sq cs e = some ds → flatD d = true → ds.all flatD = true → Φ (.bl (if neg then !(ds.any fun q => deq q d) else ds.any fun q => deq q d)) cs → rInAll K neg x y H Q := fun {ds} e1 f1 f2 q => by
    obtain ⟨a, vs, rfl, sa, ta⟩ := sq_ok r h2 e1
    refine .inl ⟨a, vs, rfl, sa, flatD_ok h1 f1, flatA_ok ta f2, ?_⟩
    rw [inV_deq h1 f1 ta f2]
    exact k _ cs _ H q r .refl (.bl _)
  cases e with
  | tup ds => exact seq rfl h.1 h.2.1 h.2.2
  | lst ds => exact seq rfl h.1 h.2.1 h.2.2
  | rl ds => exact seq rfl h.1 h.2.1 h.2.2
  | str z =>
    cases d with
    | str u => cases h1; cases h2; exact .inr (.inr ⟨u, z, rfl, rfl, k _ cs _ H h r .refl (.bl _)⟩)
    | _ => exact h.elim
  | cell a =>
    unfold wIn at h
    dsimp only at h
    split at h
    · rename_i ds hc
      exact seq (sq_cell hc) h.1 h.2.1 h.2.2
    · rename_i kvs hc
      obtain ⟨ky, ek, q⟩ := h
      obtain ⟨ws, hw, rel⟩ := r.c a _ hc
      cases h2
      rw [dkey_ok h1 ek]
      have e : (vK kvs ky).isSome = (valV ws ky).isSome := by
        cases z : vK kvs ky with
        | none => rw [(rel.val ky).2 z]; rfl
        | some d' => obtain ⟨v, hv, _⟩ := (rel.val ky).1 d' z; rw [hv]; rfl
      refine .inr (.inl ⟨a, _, rfl, DGet.k hw, ?_⟩)
      rw [← e]
      exact k _ cs _ H q r .refl (.bl _)
    · exact h.elim
  | _ => exact h.elim
end

/-! ## tests -/
def dB (w : DE) : DT := fun ρ cs Φ Ψ => w ρ cs (fun d cs' => match d with
  | .bl b => Φ b cs'
  | _ => False) Ψ
/-- a value's truth -/
def tru (cs : Cs) : D → Option Bool
  | .non => some false
  | .bl b => some b
  | .int i => some (i != 0)
  | .str x => if x.length ≤ 16777216 then some ((x.length : Int) != 0) else none
  | .tup ds => some (!ds.isEmpty)
  | .lst ds => some (!ds.isEmpty)
  | .rl ds => some (!ds.isEmpty)
  | .cell a => match cs a with
    | some (.lst ds) => some (!ds.isEmpty)
    | some (.dict kvs) => some (!kvs.isEmpty)
    | _ => none
  | _ => none
def dTru (w : DE) : DT := fun ρ cs Φ Ψ => w ρ cs (fun d cs' => match tru cs' d with
  | some b => Φ b cs'
  | none => False) Ψ
def dAnd (a b : DT) : DT := fun ρ cs Φ Ψ => a ρ cs (fun c cs1 => if c = true then b ρ cs1 Φ Ψ else Φ false cs1) Ψ
def dOr (a b : DT) : DT := fun ρ cs Φ Ψ => a ρ cs (fun c cs1 => if c = true then Φ true cs1 else b ρ cs1 Φ Ψ) Ψ
def dNot (a : DT) : DT := fun ρ cs Φ Ψ => a ρ cs (fun c cs1 => Φ (!c) cs1) Ψ
def dAndV (a b : DE) : DE := fun ρ cs Φ Ψ => a ρ cs (fun d cs1 => match d with
  | .bl c => if c = true then b ρ cs1 Φ Ψ else Φ (.bl false) cs1
  | _ => False) Ψ
def dOrV (a b : DE) : DE := fun ρ cs Φ Ψ => a ρ cs (fun d cs1 => match d with
  | .bl c => if c = true then Φ (.bl true) cs1 else b ρ cs1 Φ Ψ
  | _ => False) Ψ
def dNotV (a : DE) : DE := fun ρ cs Φ Ψ => a ρ cs (fun d cs1 => match d with
  | .bl c => Φ (.bl (!c)) cs1
  | _ => False) Ψ
def dIfE (t : DT) (a b : DE) : DE := fun ρ cs Φ Ψ => t ρ cs (fun c cs1 => if c = true then a ρ cs1 Φ Ψ else b ρ cs1 Φ Ψ) Ψ
theorem isEmpty_of_len {α β : Type} : ∀ {xs : List α} {ys : List β}, xs.length = ys.length → xs.isEmpty = ys.isEmpty
  | [], [], _ => rfl
  | _ :: _, _ :: _, _ => rfl
theorem tru_ok2 {K : PySem.W.Frag} {H : Hp} {cs : Cs} {F : Hp} {v : V} {d : D} {b : Bool} (r : Rl K H cs F) (h : Dt K (hid H cs F) v d) (e : tru cs d = some b) : TruV K v H b := by
  cases h with
  | non => cases e; rfl
  | bl c => cases e; rfl
  | int i => cases e; rfl
  | str x =>
    unfold tru at e
    dsimp only at e
    by_cases z : x.length ≤ 16777216
    · rw [if_pos z] at e; cases e; exact ⟨sz z, rfl⟩
    · rw [if_neg z] at e; cases e
  | tup sa ta => cases e; exact .inr (.inl ⟨_, same_t hid_sub sa, by rw [isEmpty_of_len ta.length]⟩)
  | lst sa ta => cases e; exact .inl ⟨_, SqL.of (hid_sub _ _ sa), by rw [isEmpty_of_len ta.length]⟩
  | rl sa ta => cases e; exact .inl ⟨_, same_l hid_sub sa, by rw [isEmpty_of_len ta.length]⟩
  | cell a =>
    unfold tru at e
    dsimp only at e
    split at e
    · rename_i ds hc
      cases e
      obtain ⟨vs, h1, h2⟩ := r.c a _ hc
      exact .inl ⟨vs, SqL.of h1, by rw [isEmpty_of_len h2.length]⟩
    · rename_i kvs hc
      cases e
      obtain ⟨vs, h1, h2⟩ := r.c a _ hc
      exact .inr (.inr ⟨vs, h1, by rw [isEmpty_of_len h2.length]⟩)
    · cases e
  | val v => cases e
  | exn _ _ => cases e
  | pt _ => cases e
section
variable {X : Cx} {W : WX} {K : PySem.W.Frag} {a b c : Expr} {rest : List Expr} {ta tb : TE} {wa wb : DE} {t u : TT} {w z : DT} {pos : Pos} {r : R2} {wr : DR}
theorem sim_B (h : SimE K W ta wa) : SimT K W (tB ta) (dB wa) := fun ρ cs Φ Ψ σ H F Q hw R L k => h ρ cs _ Ψ σ H F _ hw R L fun d cs' v H' q R' s' td => by
  cases d with
  | bl b => cases td; exact ⟨b, rfl, k b cs' H' q R' s'⟩
  | _ => exact q.elim
/-- a comparison as a test -/
theorem qt_cmp {op : CmpOp} (ho : OpR X (compareOp op) r) (hr : SimR X.K r wr) (ha : QE X W a ta wa) (hb : QE X W b tb wb) (hm : behindInMarks op b = false) : QT X W (.Compare a [op] [b] pos) (tTest (tOp r ta tb)) (dB (dOp wr wa wb)) :=
  ⟨pt_cmpR ho ha.pe hb.pe hm, sim_B (sim_op hr ha.sim hb.sim)⟩
/-- any other expression as a test -/
theorem qt_tru (ha : QE X W a ta wa) (he : ∀ whole, isTrue a X.env whole = (do let v ← whole; standAt a.pos; holding [v] (truthy v))) : QT X W a (fun σ H Q => ta σ H fun x H' => ∃ k, TruV X.K x H' k ∧ Q k H') (dTru wa) :=
  ⟨pt_truth ha.pe he, fun ρ cs Φ Ψ σ H F Q hw R L k => ha.sim ρ cs _ Ψ σ H F _ hw R L fun d cs' v H' q R' s' td => by
    split at q
    · rename_i b e
      exact ⟨b, tru_ok2 R'.r td e, k b cs' H' q R' s'⟩
    · exact q.elim⟩
theorem QW.pt (h : QW X W a t w) : QT X W a t w := ⟨h.pe.pt, h.sim⟩
theorem qw_and1 (h : QT X W a t w) : QW X W (.BoolOp .And [a] pos) t w := ⟨pw_and1 h.pe, h.sim⟩
theorem qw_or1 (h : QT X W a t w) : QW X W (.BoolOp .Or [a] pos) t w := ⟨pw_or1 h.pe, h.sim⟩
theorem qw_and (h : QT X W a t w) (g : QW X W (.BoolOp .And (b :: rest) pos) u z) : QW X W (.BoolOp .And (a :: b :: rest) pos) (tAnd t u) (dAnd w z) :=
  ⟨pw_and h.pe g.pe, fun ρ cs Φ Ψ σ H F Q hw R L k => h.sim ρ cs _ Ψ σ H F _ hw R L fun c cs1 H1 q R1 s1 => by
    cases c with
    | true => exact g.sim ρ cs1 Φ Ψ σ H1 F Q q R1 (L.step s1) fun b cs2 H2 q2 R2' s2 => k b cs2 H2 q2 R2' (s1.trans s2)
    | false => exact k false cs1 H1 q R1 s1⟩
theorem qw_or (h : QT X W a t w) (g : QW X W (.BoolOp .Or (b :: rest) pos) u z) : QW X W (.BoolOp .Or (a :: b :: rest) pos) (tOr t u) (dOr w z) :=
  ⟨pw_or h.pe g.pe, fun ρ cs Φ Ψ σ H F Q hw R L k => h.sim ρ cs _ Ψ σ H F _ hw R L fun c cs1 H1 q R1 s1 => by
    cases c with
    | false => exact g.sim ρ cs1 Φ Ψ σ H1 F Q q R1 (L.step s1) fun b cs2 H2 q2 R2' s2 => k b cs2 H2 q2 R2' (s1.trans s2)
    | true => exact k true cs1 H1 q R1 s1⟩
theorem qt_not (h : QT X W a t w) : QT X W (.UnaryOp .Not a pos) (tNot t) (dNot w) :=
  ⟨pt_not h.pe, fun ρ cs Φ Ψ σ H F Q hw R L k => h.sim ρ cs _ Ψ σ H F _ hw R L fun c cs1 H1 q R1 s1 => k (!c) cs1 H1 q R1 s1⟩
theorem qe_one {op : BoolOp} (h : QE X W a ta wa) : QE X W (.BoolOp op [a] pos) ta wa := ⟨pe_one h.pe, h.sim⟩
theorem qe_and (h : QE X W a ta wa) (g : QE X W (.BoolOp .And (b :: rest) pos) tb wb) : QE X W (.BoolOp .And (a :: b :: rest) pos) (tAndV ta tb) (dAndV wa wb) :=
  ⟨pe_and h.pe g.pe, fun ρ cs Φ Ψ σ H F Q hw R L k => h.sim ρ cs _ Ψ σ H F _ hw R L fun d cs1 v H1 q R1 s1 td => by
    cases d with
    | bl c =>
      cases td
      refine ⟨c, rfl, ?_⟩
      cases c with
      | true => exact g.sim ρ cs1 Φ Ψ σ H1 F Q q R1 (L.step s1) fun d2 cs2 v2 H2 q2 R2' s2 t2 => k d2 cs2 v2 H2 q2 R2' (s1.trans s2) t2
      | false => exact k _ cs1 _ H1 q R1 s1 (.bl _)
    | _ => exact q.elim⟩
theorem qe_or (h : QE X W a ta wa) (g : QE X W (.BoolOp .Or (b :: rest) pos) tb wb) : QE X W (.BoolOp .Or (a :: b :: rest) pos) (tOrV ta tb) (dOrV wa wb) :=
  ⟨pe_or h.pe g.pe, fun ρ cs Φ Ψ σ H F Q hw R L k => h.sim ρ cs _ Ψ σ H F _ hw R L fun d cs1 v H1 q R1 s1 td => by
    cases d with
    | bl c =>
      cases td
      refine ⟨c, rfl, ?_⟩
      cases c with
      | false => exact g.sim ρ cs1 Φ Ψ σ H1 F Q q R1 (L.step s1) fun d2 cs2 v2 H2 q2 R2' s2 t2 => k d2 cs2 v2 H2 q2 R2' (s1.trans s2) t2
      | true => exact k _ cs1 _ H1 q R1 s1 (.bl _)
    | _ => exact q.elim⟩
theorem qe_not (h : QE X W a ta wa) : QE X W (.UnaryOp .Not a pos) (tNotV ta) (dNotV wa) :=
  ⟨pe_not h.pe, fun ρ cs Φ Ψ σ H F Q hw R L k => h.sim ρ cs _ Ψ σ H F _ hw R L fun d cs1 v H1 q R1 s1 td => by
    cases d with
    | bl c => cases td; exact ⟨c, rfl, k _ cs1 _ H1 q R1 s1 (.bl _)⟩
    | _ => exact q.elim⟩
theorem qe_ifE (h : QT X W c t w) (g : QE X W a ta wa) (g' : QE X W b tb wb) : QE X W (.IfExp c a b pos) (tIf t ta tb) (dIfE w wa wb) :=
  ⟨pe_ifExp h.pe g.pe g'.pe, fun ρ cs Φ Ψ σ H F Q hw R L k => h.sim ρ cs _ Ψ σ H F _ hw R L fun c cs1 H1 q R1 s1 => by
    cases c with
    | true => exact g.sim ρ cs1 Φ Ψ σ H1 F Q q R1 (L.step s1) fun d2 cs2 v2 H2 q2 R2' s2 t2 => k d2 cs2 v2 H2 q2 R2' (s1.trans s2) t2
    | false => exact g'.sim ρ cs1 Φ Ψ σ H1 F Q q R1 (L.step s1) fun d2 cs2 v2 H2 q2 R2' s2 t2 => k d2 cs2 v2 H2 q2 R2' (s1.trans s2) t2⟩
/-- -a -/
def dUn (g : Int → Int) (wa : DE) : DE := fun ρ cs Φ Ψ => wa ρ cs (fun d cs1 => match d with
  | .int i => Φ (.int (g i)) cs1
  | _ => False) Ψ
theorem qe_neg (h : QE X W a ta wa) : QE X W (.UnaryOp .USub a pos) (tUn (rU fun i => .int (-i)) ta) (dUn (fun i => -i) wa) :=
  ⟨pe_un un_neg h.pe, fun ρ cs Φ Ψ σ H F Q hw R L k => h.sim ρ cs _ Ψ σ H F _ hw R L fun d cs1 v H1 q R1 s1 td => by
    cases d with
    | int c => cases td; exact ⟨c, rfl, k _ cs1 _ H1 q R1 s1 (.int _)⟩
    | _ => exact q.elim⟩
end
end DL
namespace DL
open PySem PySem.Spec PyProof.Rows L2

/-! ## arguments, displays -/
def dNil : DA := fun _ cs Φ _ => Φ [] cs
def dCons (w : DE) (r : DA) : DA := fun ρ cs Φ Ψ => w ρ cs (fun d cs1 => r ρ cs1 (fun ds cs2 => Φ (d :: ds) cs2) Ψ) Ψ
def dTup (w : DA) : DE := fun ρ cs Φ Ψ => w ρ cs (fun ds cs1 => ds.length ≤ 16777216 ∧ Φ (.tup ds) cs1) Ψ
def dLst (m : NewM) (w : DA) : DE := fun ρ cs Φ Ψ => w ρ cs (fun ds cs1 => ds.length ≤ 16777216 ∧ m ds cs1 Φ) Ψ
section
variable {X : Cx} {W : WX} {K : PySem.W.Frag} {e : Expr} {es : List Expr} {te : TE} {ta : TA} {we : DE} {wa : DA} {pos : Pos}
theorem qa_nil : QA X W [] tNil dNil := ⟨pa_nil, fun ρ cs Φ Ψ σ H F Q h R L k => k [] cs [] H h R .refl .nil⟩
theorem qa_cons (h : QE X W e te we) (r : QA X W es ta wa) (hs : starEach (e :: es) X.env = (false, eval e X.env) :: starEach es X.env := by rfl) : QA X W (e :: es) (tCons te ta) (dCons we wa) :=
  ⟨pa_cons h.pe r.pe hs, fun ρ cs Φ Ψ σ H F Q hw R L k => h.sim ρ cs _ Ψ σ H F _ hw R L fun d cs1 v H1 q R1 s1 t1 => r.sim ρ cs1 _ Ψ σ H1 F _ q R1 (L.step s1) fun ds cs2 vs H2 q2 R2' s2 t2 =>
    k (d :: ds) cs2 (v :: vs) H2 q2 R2' (s1.trans s2) (.cons (t1.mono s2.base) t2)⟩
theorem qe_tup {x1} (h : QA X W es ta wa) : QE X W (.Tuple es x1 pos) (tTup ta) (dTup wa) :=
  ⟨pe_tup h.pe, fun ρ cs Φ Ψ σ H F Q hw R L k => h.sim ρ cs _ Ψ σ H F _ hw R L fun ds cs1 vs H1 q R1 s1 t1 => ⟨by rw [t1.length]; exact sz q.1, fun p hp => by
    obtain ⟨r2, s2, t2⟩ := R1.r.tup t1 hp
    exact k _ cs1 _ _ q.2 (R1.step r2 s2) (s1.trans s2) t2⟩⟩
theorem qe_lst {m : NewM} (hm : NewOk m) (h : QA X W es ta wa) : QE X W (.List es pos) (tLst ta) (dLst m wa) :=
  ⟨pe_lst h.pe, fun ρ cs Φ Ψ σ H F Q hw R L k => h.sim ρ cs _ Ψ σ H F _ hw R L fun ds cs1 vs H1 q R1 s1 t1 => ⟨by rw [t1.length]; exact sz q.1, fun p hp => by
    obtain ⟨d, cs', z, r2, s2, t2⟩ := hm.new X.K H1 cs1 F ds vs p Φ q.2 R1.r t1 hp
    exact k _ cs' _ _ z (R1.step r2 s2) (s1.trans s2) t2⟩⟩
/-- {} -/
def dNewD : DE := fun _ cs Φ _ => ∀ p, cs p = none → Φ (.cell p) (setc cs p (.dict []))
theorem qe_newD : QE X W (.Dict [] [] pos) tDNewK dNewD :=
  ⟨pe_dnewK, fun ρ cs Φ Ψ σ H F Q h R L k p hp => by
    obtain ⟨r1, s1⟩ := R.r.newc (o := .dK []) (c := .dict []) hp ⟨[], upd_same, .nil⟩
    exact k _ _ _ _ (h p (R.r.fresh hp).1) (R.step r1 s1) s1 (.cell p)⟩
/-- a cell is let go: its list is frozen -/
def dFrz (w : DE) : DE := fun ρ cs Φ Ψ => w ρ cs (fun d cs1 => match d with
  | .cell a => ∃ ds, cs1 a = some (.lst ds) ∧ Φ (.lst ds) (delc cs1 a)
  | _ => False) Ψ
theorem qe_frz (h : QE X W e te we) : QE X W e te (dFrz we) :=
  ⟨h.pe, fun ρ cs Φ Ψ σ H F Q hw R L k => h.sim ρ cs _ Ψ σ H F _ hw R L fun d cs1 v H1 q R1 s1 t1 => by
    cases d with
    | cell a =>
      obtain ⟨ds, e, q⟩ := q
      cases t1
      obtain ⟨vs, h1, t⟩ := R1.r.c a _ e
      obtain ⟨r2, s2⟩ := R1.r.del (a := a)
      exact k _ _ _ _ q (R1.step r2 s2) (s1.trans s2) (.lst ((hid_ne delc_same (R1.r.d a _ e)).trans h1) (t.mono s2.base))
    | _ => exact q.elim⟩
/-- a value let go: nothing is known of it (so that a cell may go) -/
def dDel (w : DE) : DE := fun ρ cs Φ Ψ => w ρ cs (fun d cs1 => match d with
  | .cell a => Φ (.cell a) (delc cs1 a)
  | _ => False) Ψ
end

/-! ## calls of defs -/
abbrev DSp := List D → Cs → (D → Cs → Prop) → (Exn → Cs → Prop) → Prop
/-- a def's promise by data -/
def spD (K : PySem.W.Frag) (P : DSp) : Sp := fun vs H Q E => ∃ cs F ds Φ Ψ, Rl K H cs F ∧ DtA K (hid H cs F) vs ds ∧ P ds cs Φ Ψ ∧
  (∀ d cs' v H', Φ d cs' → Rl K H' cs' F → Stp H cs H' cs' F → Dt K (hid H' cs' F) v d → Q v H') ∧
  ∀ (x : Exn) cs' H' a v, Ψ x cs' → Rl K H' cs' F → Stp H cs H' cs' F → hid H' cs' F a = some (.xd [("what", v)]) → Dt K (hid H' cs' F) v x.what → E (.ref x.C) (some a) H'
def dCall (P : DSp) (w : DA) : DE := fun ρ cs Φ Ψ => w ρ cs (fun ds cs1 => P ds cs1 Φ (fun x cs2 => Ψ x ρ cs2)) Ψ
def startD (n : Nat) (ds : List D) : EnvD := ds.map some ++ List.replicate (n - ds.length) none
theorem start_env {K : PySem.W.Frag} {B : Hp} {N : List Str} {vs : List V} {ds : List D} (t : DtA K B vs ds) : EnvR K B (L2.start N vs) (startD N.length ds) := by
  have rep : ∀ n, EnvR K B (List.replicate n none) (List.replicate n none) := fun n => by
    induction n with
    | zero => exact .nil
    | succ n ih => exact .cons (fun d e => nomatch e) ih
  have app : ∀ {a : L2.St} {b : EnvD} {a' : L2.St} {b' : EnvD}, EnvR K B a b → EnvR K B a' b' → EnvR K B (a ++ a') (b ++ b') := fun h h' => by
    induction h with
    | nil => exact h'
    | cons r _ ih => exact .cons r ih
  have m : ∀ {vs : List V} {ds : List D}, DtA K B vs ds → EnvR K B (vs.map some) (ds.map some) := by
    intro vs ds t
    induction vs generalizing ds with
    | nil => cases t; exact .nil
    | cons v vs ih =>
      cases t with
      | cons h t => exact .cons (fun d e => by cases e; exact ⟨v, rfl, h⟩) (ih t)
  unfold L2.start startD
  rw [t.length]
  exact app (m t) (rep _)
section
variable {X : Cx} {W : WX} {P : DSp} {k : Nat} {f : Addr} {fd : FuncData} {ps : List Str} {x m : Str} {p pos apos : Pos} {e o : Expr} {es : List Expr} {ta : TA} {wa : DA} {to : TE} {wo : DE} {C : Addr}
/-- the link for the callee's raises -/
theorem call_sim {K : PySem.W.Frag} {σ : L2.St} {H H1 : Hp} {ρ : EnvD} {cs cs1 : Cs} {F : Hp} {Φ : D → Cs → Prop} {Ψ : EK} {Q : VK} {vs : List V} {ds : List D} (h : P ds cs1 Φ (fun x cs2 => Ψ x ρ cs2)) (R : RS K σ H ρ cs F) (R1 : RS K σ H1 ρ cs1 F)
    (L : EL K W Ψ H cs F) (s1 : Stp H cs H1 cs1 F) (t : DtA K (hid H1 cs1 F) vs ds) (kk : ∀ d cs' v H', Φ d cs' → RS K σ H' ρ cs' F → Stp H cs H' cs' F → Dt K (hid H' cs' F) v d → Q v H') : spD K P vs H1 Q (WE W σ) :=
  ⟨cs1, F, ds, Φ, _, R1.r, t, h, fun d cs' v H' q r s t => kk d cs' v H' q (R1.step r s) (s1.trans s) t, fun x cs' H' a v q r s e t => L x ρ cs' σ H' a v q (R1.step r s) (s1.trans s) e t⟩
theorem qe_call (F : FnOk X.prog X.w X.K X.mg X.base (L2.CX X.prog X.w) k f fd ps (spD X.K P)) (hr : Room k X.A) (tk : Takes X W) (hg : Gl X x) (hm : X.mg x = some (.ref f)) (hk : PySem.W.keepIn X.K (.ref f) = true) (hb : Binds X.K fd ps [])
    (ha : QA X W (e :: es) ta wa) (hdb : (x == ("__debug__" : Str)) = false := by decide) (he : starEach (e :: es) X.env = (false, eval e X.env) :: starEach es X.env := by rfl) (hpl : (backTo pos (starEach es X.env)).any (·.1) = false := by rfl) :
    QE X W (.Call (.Name x p) (e :: es) [] pos) (tCallS (spD X.K P) (WE W) ta) (dCall P wa) :=
  ⟨pe_callS F hr hg hm hk hb (fun σ => passAt tk σ) ha.pe hdb he hpl, fun ρ cs Φ Ψ σ H F Q h R L kk => ha.sim ρ cs _ Ψ σ H F _ h R L fun ds cs1 vs H1 q R1 s1 t1 => call_sim q R R1 L s1 t1 kk⟩
/-- o.m(e, ..) -/
def tMethS (C : Addr) (m : Str) (sp : Sp) (E : L2.St → XK) (ta : TE) (t : TA) : TE := fun σ H Q => ta σ H fun x H1 => ∃ a dx fs, x = .ref a ∧ H1 a = some (.ins C dx fs) ∧ fs.lookup m = none ∧ t σ H1 fun vs H2 => sp (x :: vs) H2 Q (E σ)
theorem pe_methS {pl : Sem Bool} {sp : Sp} {CX : CXT} {E : L2.St → XK} (he : PE X o to) (c : Cls X.K C) (hm : Meth X.K C m f) (F : FnOk X.prog X.w X.K X.mg X.base CX k f fd ps sp) (hr : Room k X.A) (hb : Binds X.K fd ps []) (hx : ∀ σ, PassesAt CX X σ (E σ)) (ha : PA X (e :: es) ta)
    (hst : starEach (e :: es) X.env = (false, eval e X.env) :: starEach es X.env := by rfl) (hpl : (backTo pos (starEach es X.env)).any (·.1) = false := by rfl)
    (ht : eval (.Call (.Attribute o m apos) (e :: es) [] pos) X.env = (do
      let ov ← eval o X.env
      standAt apos.atName
      let (f, first) ← holding [ov] (getMethod ov m pl)
      callWith pos f first (backTo pos (starEach (e :: es) X.env)) (backToKw pos (keywordEach [] X.env))) := by rfl) :
    PE X (.Call (.Attribute o m apos) (e :: es) [] pos) (tMethS C m sp E to ta) := by
  refine ⟨fun pins s σ H Q I h => ?_⟩
  refine PySem.W.methodCall_KW (pl := pl) (thn (he.run pins s σ H _ I h) fun u s1 ⟨x, H1, I1, rx, a, dx, fs, ex, ea, l, q⟩ => ?_) ht
  subst ex
  obtain rfl : u = Value.ref a := rx
  refine getmeth_ok I1 ea c hm l ?_
  refine PySem.W.callWith_K (first := [.ref a]) (h₀ := X.base) I.ok.mod.kin hm.kp (thn (ha.run pos pins s1 σ H1 _ I1 q) fun us s2 ⟨vs, H2, I2, r, q2⟩ => ⟨I2.kIn, ?_⟩) hst hpl
  exact run_fnS (us := .ref a :: us) (vs := .ref a :: vs) F hr hb (hx σ) I2 (.cons rfl r) q2
theorem pe_methS0 {pl : Sem Bool} {sp : Sp} {CX : CXT} {E : L2.St → XK} (he : PE X o to) (c : Cls X.K C) (hm : Meth X.K C m f) (F : FnOk X.prog X.w X.K X.mg X.base CX k f fd ps sp) (hr : Room k X.A) (hb : Binds X.K fd ps []) (hx : ∀ σ, PassesAt CX X σ (E σ))
    (ht : eval (.Call (.Attribute o m apos) [] [] pos) X.env = (do
      let ov ← eval o X.env
      standAt apos.atName
      let (f, first) ← holding [ov] (getMethod ov m pl)
      callWith pos f first (backTo pos (starEach [] X.env)) (backToKw pos (keywordEach [] X.env))) := by rfl) :
    PE X (.Call (.Attribute o m apos) [] [] pos) (tMethS C m sp E to tNil) := by
  refine ⟨fun pins s σ H Q I h => ?_⟩
  refine PySem.W.methodCall_KW (pl := pl) (thn (he.run pins s σ H _ I h) fun u s1 ⟨x, H1, I1, rx, a, dx, fs, ex, ea, l, q⟩ => ?_) ht
  subst ex
  obtain rfl : u = Value.ref a := rx
  refine getmeth_ok I1 ea c hm l ?_
  exact PySem.W.callWith_K0 (first := [.ref a]) I1.kIn hm.kp (run_fnS (us := [.ref a]) (vs := [.ref a]) F hr hb (hx σ) I1 (.cons rfl .nil) q)
def dMeth (C : Addr) (m : Str) (P : DSp) (wo : DE) (wa : DA) : DE := fun ρ cs Φ Ψ => wo ρ cs (fun d cs1 => match d with
  | .cell a => ∃ fs, cs1 a = some (.obj C fs) ∧ fs.lookup m = none ∧ wa ρ cs1 (fun ds cs2 => P (.cell a :: ds) cs2 Φ (fun x cs3 => Ψ x ρ cs3)) Ψ
  | _ => False) Ψ
theorem meth_sim {K : PySem.W.Frag} (ho : SimE K W to wo) (ha : SimA K W ta wa) : SimE K W (tMethS C m (spD K P) (WE W) to ta) (dMeth C m P wo wa) := fun ρ cs Φ Ψ σ H F Q h R L kk => ho ρ cs _ Ψ σ H F _ h R L fun d cs1 v H1 q R1 s1 t1 => by
  cases d with
  | cell a =>
    cases t1
    obtain ⟨fs, e1, l1, q⟩ := q
    obtain ⟨dx, ws, e2, rel⟩ := R1.r.c a _ e1
    refine ⟨a, dx, ws, rfl, e2, (rel.lookup (f := m)).2 l1, ?_⟩
    exact ha ρ cs1 _ Ψ σ H1 F _ q R1 (L.step s1) fun ds cs2 vs H2 q2 R2' s2 t2 => call_sim q2 R R2' L (s1.trans s2) (.cons (.cell a) t2) kk
  | _ => exact q.elim
theorem qe_meth {pl : Sem Bool} (ho : QE X W o to wo) (c : Cls X.K C) (hm : Meth X.K C m f) (F : FnOk X.prog X.w X.K X.mg X.base (L2.CX X.prog X.w) k f fd ps (spD X.K P)) (hr : Room k X.A) (tk : Takes X W) (hb : Binds X.K fd ps []) (ha : QA X W (e :: es) ta wa)
    (hst : starEach (e :: es) X.env = (false, eval e X.env) :: starEach es X.env := by rfl) (hpl : (backTo pos (starEach es X.env)).any (·.1) = false := by rfl)
    (ht : eval (.Call (.Attribute o m apos) (e :: es) [] pos) X.env = (do
      let ov ← eval o X.env
      standAt apos.atName
      let (f, first) ← holding [ov] (getMethod ov m pl)
      callWith pos f first (backTo pos (starEach (e :: es) X.env)) (backToKw pos (keywordEach [] X.env))) := by rfl) :
    QE X W (.Call (.Attribute o m apos) (e :: es) [] pos) (tMethS C m (spD X.K P) (WE W) to ta) (dMeth C m P wo wa) :=
  ⟨pe_methS ho.pe c hm F hr hb (fun σ => passAt tk σ) ha.pe hst hpl ht, meth_sim ho.sim ha.sim⟩
theorem qe_meth0 {pl : Sem Bool} (ho : QE X W o to wo) (c : Cls X.K C) (hm : Meth X.K C m f) (F : FnOk X.prog X.w X.K X.mg X.base (L2.CX X.prog X.w) k f fd ps (spD X.K P)) (hr : Room k X.A) (tk : Takes X W) (hb : Binds X.K fd ps [])
    (ht : eval (.Call (.Attribute o m apos) [] [] pos) X.env = (do
      let ov ← eval o X.env
      standAt apos.atName
      let (f, first) ← holding [ov] (getMethod ov m pl)
      callWith pos f first (backTo pos (starEach [] X.env)) (backToKw pos (keywordEach [] X.env))) := by rfl) :
    QE X W (.Call (.Attribute o m apos) [] [] pos) (tMethS C m (spD X.K P) (WE W) to tNil) (dMeth C m P wo dNil) :=
  ⟨pe_methS0 ho.pe c hm F hr hb (fun σ => passAt tk σ) ht, meth_sim ho.sim qa_nil.sim⟩
/-- C(e, ..) -/
def tMakeS (C : Addr) (sp : Sp) (E : L2.St → XK) (t : TA) : TE := fun σ H Q => t σ H fun vs H1 => ∀ x dx, H1 x = none → H1 dx = none → dx ≠ x → sp (.ref x :: vs) (upd (upd H1 dx (.own x)) x (.ins C dx [])) (fun v H2 => v = .non ∧ Q (.ref x) H2) (E σ)
theorem run_makeS {sp : Sp} {CX : CXT} {E : L2.St → XK} {pins : List (Addr × Obj)} {σ : L2.St} {H : Hp} {s : Shared} {Q : VK} {us : List Value} {vs : List V} (M : Mk X.K C f) (F : FnOk X.prog X.w X.K X.mg X.base CX k f fd ps sp) (hr : Room (k + 1) X.A) (hb : Binds X.K fd ps [])
    (hx : PassesAt CX X σ (E σ)) (I : Inv X pins σ H s) (r : Vals vs us)
    (h : ∀ x dx, H x = none → H dx = none → dx ≠ x → sp (.ref x :: vs) (upd (upd H dx (.own x)) x (.ins C dx [])) (fun v H2 => v = .non ∧ Q (.ref x) H2) (E σ)) :
    wpAny (model X.prog X.w) X.A (call (.ref C) us) (EP X pins σ Q) X.xe s := by
  have hq := h (s.heap.objs.size + 1) s.heap.objs.size (I.hok.fresh (Nat.le_succ _)) (I.hok.fresh (Nat.le_refl _)) (Nat.ne_of_lt (Nat.lt_succ_self _))
  have I2 := Inv.made (C := C) I
  have r2 : Vals (V.ref (s.heap.objs.size + 1) :: vs) (Value.ref (s.heap.objs.size + 1) :: us) := .cons rfl r
  have hl : (Value.ref (s.heap.objs.size + 1) :: us).length = ps.length := by
    have e := r2.length
    rw [F.len _ _ _ _ hq] at e
    exact e.symm
  have b := hb _ (Value.ref (s.heap.objs.size + 1) :: us) I2.kIn (by rw [List.append_nil]; exact hl)
  rw [List.append_nil] at b
  refine wpAny_call (make_map (f := f) I.kIn M.makes M.init (beq_iff_eq.mp M.fn) (codeAny_mono (F.run _ X.stack _ _ ⟨Value.ref (s.heap.objs.size + 1) :: us, []⟩ (Value.ref (s.heap.objs.size + 1) :: us) _ _ (E σ) (hr.make C us [])
    (I2.env0.make C us []) b r2 hq) fun r s' hq' => ?_))
  cases r with
  | error e => exact hx pins _ _ e s' I2 hq'
  | ok fl =>
    cases fl with
    | ret u =>
      obtain ⟨v, H', I3, rv, ev, q3⟩ := I2.after hq'
      subst ev
      exact ⟨rv, ⟨V.ref (s.heap.objs.size + 1), H', I3, rfl, q3⟩⟩
    | next => exact False.elim hq'
    | brk => exact False.elim hq'
    | cont => exact False.elim hq'
theorem pe_makeS {sp : Sp} {CX : CXT} {E : L2.St → XK} (M : Mk X.K C f) (F : FnOk X.prog X.w X.K X.mg X.base CX k f fd ps sp) (hr : Room (k + 1) X.A) (hg : Gl X x) (hm : X.mg x = some (.ref C)) (hb : Binds X.K fd ps []) (hx : ∀ σ, PassesAt CX X σ (E σ))
    (ha : PA X (e :: es) ta) (hdb : (x == ("__debug__" : Str)) = false := by decide) (he : starEach (e :: es) X.env = (false, eval e X.env) :: starEach es X.env := by rfl) (hpl : (backTo pos (starEach es X.env)).any (·.1) = false := by rfl) :
    PE X (.Call (.Name x p) (e :: es) [] pos) (tMakeS C sp E ta) := by
  refine ⟨fun pins s σ H Q I h => ?_⟩
  refine wpAny_Call_Name_kw (ld_glob I hg hm ?_ hdb)
  refine PySem.W.callWith_K (h₀ := X.base) I.ok.mod.kin M.kp (thn (ha.run pos pins s σ H _ I h) fun us s1 ⟨vs, H1, I1, r, q⟩ => ⟨I1.kIn, ?_⟩) he hpl
  exact run_makeS M F hr hb (hx σ) I1 r q
theorem pe_makeS0 {sp : Sp} {CX : CXT} {E : L2.St → XK} (M : Mk X.K C f) (F : FnOk X.prog X.w X.K X.mg X.base CX k f fd ps sp) (hr : Room (k + 1) X.A) (hg : Gl X x) (hm : X.mg x = some (.ref C)) (hb : Binds X.K fd ps []) (hx : ∀ σ, PassesAt CX X σ (E σ))
    (hdb : (x == ("__debug__" : Str)) = false := by decide) : PE X (.Call (.Name x p) [] [] pos) (tMakeS C sp E tNil) := by
  refine ⟨fun pins s σ H Q I h => ?_⟩
  refine wpAny_Call_Name_kw (ld_glob I hg hm ?_ hdb)
  exact PySem.W.callWith_K0 I.kIn M.kp (run_makeS (us := []) M F hr hb (hx σ) I .nil h)
def dMake (C : Addr) (P : DSp) (wa : DA) : DE := fun ρ cs Φ Ψ => wa ρ cs (fun ds cs1 => ∀ p, cs1 p = none → P (.cell p :: ds) (setc cs1 p (.obj C [])) (fun d cs2 => d = .non ∧ Φ (.cell p) cs2) (fun x cs2 => Ψ x ρ cs2)) Ψ
theorem make_sim {K : PySem.W.Frag} (ha : SimA K W ta wa) : SimE K W (tMakeS C (spD K P) (WE W) ta) (dMake C P wa) := fun ρ cs Φ Ψ σ H F Q h R L kk => ha ρ cs _ Ψ σ H F _ h R L fun ds cs1 vs H1 q R1 s1 t1 x dx hx hdx ne => by
  have hc := (R1.r.fresh hx).1
  obtain ⟨r2, s2, _⟩ := R1.r.new (o := .own x) hdx
  have hx2 : upd H1 dx (.own x) x = none := by rw [upd_ne (Ne.symm ne)]; exact hx
  obtain ⟨r3, s3⟩ := r2.newc (o := .ins C dx []) (c := .obj C []) hx2 ⟨dx, [], upd_same, .nil⟩
  have s23 := s2.trans s3
  refine ⟨setc cs1 x (.obj C []), F, .cell x :: ds, _, _, r3, .cons (.cell x) (t1.mono s23.base), q x hc, fun d cs' v H' q r s t => ?_, fun ex cs' H' a v q r s e t => ?_⟩
  · obtain ⟨rfl, q⟩ := q
    cases t
    exact ⟨rfl, kk _ cs' _ H' q (R1.step r (s23.trans s)) (s1.trans (s23.trans s)) (.cell x)⟩
  · exact L ex ρ cs' σ H' a v q (R1.step r (s23.trans s)) (s1.trans (s23.trans s)) e t
theorem qe_make (M : Mk X.K C f) (F : FnOk X.prog X.w X.K X.mg X.base (L2.CX X.prog X.w) k f fd ps (spD X.K P)) (hr : Room (k + 1) X.A) (tk : Takes X W) (hg : Gl X x) (hm : X.mg x = some (.ref C)) (hb : Binds X.K fd ps [])
    (ha : QA X W (e :: es) ta wa) (hdb : (x == ("__debug__" : Str)) = false := by decide) (he : starEach (e :: es) X.env = (false, eval e X.env) :: starEach es X.env := by rfl) (hpl : (backTo pos (starEach es X.env)).any (·.1) = false := by rfl) :
    QE X W (.Call (.Name x p) (e :: es) [] pos) (tMakeS C (spD X.K P) (WE W) ta) (dMake C P wa) := ⟨pe_makeS M F hr hg hm hb (fun σ => passAt tk σ) ha.pe hdb he hpl, make_sim ha.sim⟩
theorem qe_make0 (M : Mk X.K C f) (F : FnOk X.prog X.w X.K X.mg X.base (L2.CX X.prog X.w) k f fd ps (spD X.K P)) (hr : Room (k + 1) X.A) (tk : Takes X W) (hg : Gl X x) (hm : X.mg x = some (.ref C)) (hb : Binds X.K fd ps [])
    (hdb : (x == ("__debug__" : Str)) = false := by decide) : QE X W (.Call (.Name x p) [] [] pos) (tMakeS C (spD X.K P) (WE W) tNil) (dMake C P dNil) := ⟨pe_makeS0 M F hr hg hm hb (fun σ => passAt tk σ) hdb, make_sim qa_nil.sim⟩
end

/-! ## attributes -/
def dFld (C : Addr) (f : Str) (w : DE) : DE := fun ρ cs Φ Ψ => w ρ cs (fun d cs1 => match d with
  | .cell a => ∃ fs v, cs1 a = some (.obj C fs) ∧ fs.lookup f = some v ∧ Φ v cs1
  | _ => False) Ψ
/-- o.f = e: the value first -/
def dSetF (C : Addr) (f : Str) (wo wv : DE) : DS := fun D ρ cs => wv ρ cs (fun y cs1 => wo ρ cs1 (fun d cs2 => match d with
  | .cell a => ∃ fs, cs2 a = some (.obj C fs) ∧ fs.length < 1000 ∧ D.nx ρ (setc cs2 a (.obj C (putD f y fs)))
  | _ => False) D.ex) D.ex
section
variable {X : Cx} {W : WX} {C : Addr} {f : Str} {o e : Expr} {to te : TE} {wo we : DE} {pos pos' : Pos}
theorem qe_fld (c : Cls X.K C) (n : NoAttr X.K C f) (h : QE X W o to wo) (hb : attributeBase o f X.env (eval o X.env) = eval o X.env) : QE X W (.Attribute o f pos) (tFld X.K to f) (dFld C f wo) :=
  ⟨pe_fld h.pe hb, fun ρ cs Φ Ψ σ H F Q hw R L k => h.sim ρ cs _ Ψ σ H F _ hw R L fun d cs1 v H1 q R1 s1 t1 => by
    cases d with
    | cell a =>
      cases t1
      obtain ⟨fs, v, e1, l1, q⟩ := q
      obtain ⟨dx, ws, e2, rel⟩ := R1.r.c a _ e1
      obtain ⟨u, l2, t2⟩ := (rel.lookup (f := f)).1 v l1
      exact ⟨a, C, dx, ws, u, rfl, e2, c, n, l2, k _ cs1 _ H1 q R1 s1 t2⟩
    | _ => exact q.elim⟩
theorem qs_setF (c : Cls X.K C) (n : NoAttr X.K C f) (h : QE X W o to wo) (hv : QE X W e te we) (hs : swapsWith e (some (.Attribute o f pos')) pos.line X.env = pure false) : QS X W (.Assign [.Attribute o f pos'] e pos) (sFld X.K to te f) (dSetF C f wo we) :=
  ⟨ps_fld h.pe hv.pe hs, fun ρ cs D σ H F D' hw R L LE => hv.sim ρ cs _ _ σ H F _ hw R L fun y cs1 v H1 q1 R1 s1 t1 => h.sim ρ cs1 _ _ σ H1 F _ q1 R1 (L.step s1) fun d cs2 u H2 q2 R2' s2 t2 => by
    cases d with
    | cell a =>
      cases t2
      obtain ⟨fs, e1, l1, q⟩ := q2
      obtain ⟨dx, ws, e2, rel⟩ := R2'.r.c a _ e1
      have t3 := t1.mono s2.base
      obtain ⟨r3, s3⟩ := R2'.r.write (o := .ins C dx (putF f v ws)) (c' := .obj C (putD f y fs)) e1 ⟨dx, _, upd_same, rel.put t3⟩
      have s12 := s1.trans (s2.trans s3)
      exact ⟨a, C, dx, ws, rfl, e2, c, n, by rw [rel.length]; exact l1, LE.nx _ _ _ _ q (R.step r3 s12) s12⟩
    | _ => exact q2.elim⟩
end
end DL
namespace DL
open PySem PySem.Spec PyProof.Rows L2

/-! ## targets -/
abbrev DG := D → EnvD → Cs → (EnvD → Cs → Prop) → EK → Prop
abbrev DGs := List D → EnvD → Cs → (EnvD → Cs → Prop) → EK → Prop
def SimG (K : PySem.W.Frag) (W : WX) (g : TG) (w : DG) : Prop :=
  ∀ d ρ cs Φ Ψ σ H F v (Q : L2.St → Hp → Prop), w d ρ cs Φ Ψ → RS K σ H ρ cs F → EL K W Ψ H cs F → Dt K (hid H cs F) v d →
    (∀ ρ' cs' σ' H', Φ ρ' cs' → RS K σ' H' ρ' cs' F → Stp H cs H' cs' F → Q σ' H') → g v σ H Q
def SimGs (K : PySem.W.Frag) (W : WX) (g : TGs) (w : DGs) : Prop :=
  ∀ ds ρ cs Φ Ψ σ H F vs (Q : L2.St → Hp → Prop), w ds ρ cs Φ Ψ → RS K σ H ρ cs F → EL K W Ψ H cs F → DtA K (hid H cs F) vs ds →
    (∀ ρ' cs' σ' H', Φ ρ' cs' → RS K σ' H' ρ' cs' F → Stp H cs H' cs' F → Q σ' H') → g vs σ H Q
structure QG (X : Cx) (W : WX) (e : Expr) (g : TG) (w : DG) : Prop where
  pe : PG X e g
  sim : SimG X.K W g w
structure QGs (X : Cx) (W : WX) (e : List Expr) (g : TGs) (w : DGs) : Prop where
  pe : PGs X e g
  sim : SimGs X.K W g w
def dgName (i : Nat) : DG := fun d ρ cs Φ _ => Φ (ρ.set i (some d)) cs
def dgNil : DGs := fun ds ρ cs Φ _ => match ds with
  | [] => Φ ρ cs
  | _ => False
def dgCons (g : DG) (r : DGs) : DGs := fun ds ρ cs Φ Ψ => match ds with
  | d :: ds => g d ρ cs (fun ρ1 cs1 => r ds ρ1 cs1 Φ Ψ) Ψ
  | [] => False
/-- (a, b, ..) = a tuple or a list of that length -/
def dgTup (n : Nat) (g : DGs) : DG := fun d ρ cs Φ Ψ => match d with
  | .tup ds => ds.length = n ∧ g ds ρ cs Φ Ψ
  | .lst ds => ds.length = n ∧ g ds ρ cs Φ Ψ
  | .cell a => match cs a with
    | some (.lst ds) => ds.length = n ∧ g ds ρ cs Φ Ψ
    | _ => False
  | _ => False
/-- o[i] = v -/
def wSet : D → D → D → Cs → (Cs → Prop) → Prop := fun o i v cs Φ => match o with
  | .cell a => match cs a with
    | some (.lst ds) => match i with
      | .int k => ∃ j, ixN ds.length k = some j ∧ Φ (setc cs a (.lst (ds.set j v)))
      | _ => False
    | some (.dict kvs) => ∃ k, dkey i = some k ∧ kvs.length < 16777216 ∧ Φ (setc cs a (.dict (pK kvs k v)))
    | _ => False
  | _ => False
def dgSub (wo wi : DE) : DG := fun v ρ cs Φ Ψ => wo ρ cs (fun o cs1 => wi ρ cs1 (fun i cs2 => wSet o i v cs2 (fun cs3 => Φ ρ cs3)) Ψ) Ψ
def rSetD : V → V → V → Hp → (Hp → Prop) → Prop := fun o i v H Q => ∃ a H', o = .ref a ∧ DPut H a i v H' ∧ Q H'
def rSetAll : V → V → V → Hp → (Hp → Prop) → Prop := fun o i v H Q => rSetL o i v H Q ∨ rSetD o i v H Q
section
variable {X : Cx} {W : WX} {K : PySem.W.Frag} {g g' : TG} {gs : TGs} {wg : DG} {wgs : DGs} {e o ie : Expr} {es : List Expr} {pos : Pos} {i : Nat} {x : Str} {to ti : TE} {wo wi : DE}
theorem sim_gname : SimG K W (gName i) (dgName i) := fun d ρ cs Φ Ψ σ H F v Q h R L t k => k _ cs _ H h ⟨R.r, EnvR.set t R.e i⟩ .refl
theorem qg_name (h : PG X (.Name x pos) (gName i)) : QG X W (.Name x pos) (gName i) (dgName i) := ⟨h, sim_gname⟩
theorem qgs_nil : QGs X W [] gNil dgNil := ⟨pgs_nil, fun ds ρ cs Φ Ψ σ H F vs Q h R L t k => by
  cases t with
  | nil => exact ⟨rfl, k ρ cs σ H h R .refl⟩
  | cons _ _ => exact h.elim⟩
theorem qgs_cons (h : QG X W e g wg) (r : QGs X W es gs wgs) (hs : (assignEach (e :: es) X.env).map (·.2) = assign e X.env :: (assignEach es X.env).map (·.2) := by rfl) : QGs X W (e :: es) (gCons g gs) (dgCons wg wgs) :=
  ⟨pgs_cons h.pe r.pe hs, fun ds ρ cs Φ Ψ σ H F vs Q hw R L t k => by
    cases t with
    | nil => exact hw.elim
    | cons t1 t2 =>
      refine ⟨_, _, rfl, h.sim _ ρ cs _ Ψ σ H F _ _ hw R L t1 fun ρ1 cs1 σ1 H1 q R1 s1 => ?_⟩
      exact r.sim _ ρ1 cs1 Φ Ψ σ1 H1 F _ Q q R1 (L.step s1) (t2.mono s1.base) fun ρ2 cs2 σ2 H2 q2 R2' s2 => k ρ2 cs2 σ2 H2 q2 R2' (s1.trans s2)⟩
theorem PG.or (h : PG X e g) (h' : PG X e g') : PG X e (fun v σ H Q => g v σ H Q ∨ g' v σ H Q) := ⟨fun pins s σ H v u Q I r q => q.elim (h.run pins s σ H v u Q I r) (h'.run pins s σ H v u Q I r)⟩
def gSeq (K : PySem.W.Frag) (n : Nat) (t : TGs) : TG := fun v σ H Q => gTup K n t v σ H Q ∨ gLst K n t v σ H Q
theorem qg_tup {k n : Nat} (hc : X.calm = true) (h : QGs X W es gs wgs) (hn : (assignEach es X.env).length = n := by rfl) (hst : (assignEach es X.env).findIdx? (·.1) = none := by rfl) : QG X W (.Tuple es k pos) (gSeq X.K n gs) (dgTup n wgs) :=
  ⟨PG.or (pg_tup hc h.pe hn hst) (pg_lst hc h.pe hn hst), fun d ρ cs Φ Ψ σ H F v Q hw R L t kk => by
    cases d with
    | tup ds => cases t with | tup sa ta => exact .inl ⟨_, _, rfl, same_t hid_sub sa, ta.length.trans hw.1, h.sim ds ρ cs Φ Ψ σ H F _ Q hw.2 R L ta kk⟩
    | lst ds => cases t with | lst sa ta => exact .inr ⟨_, _, rfl, SqL.of (hid_sub _ _ sa), ta.length.trans hw.1, h.sim ds ρ cs Φ Ψ σ H F _ Q hw.2 R L ta kk⟩
    | cell a =>
      cases t
      unfold dgTup at hw
      dsimp only at hw
      split at hw
      · rename_i ds e
        obtain ⟨vs, h1, ta⟩ := R.r.c a _ e
        exact .inr ⟨_, _, rfl, SqL.of h1, ta.length.trans hw.1, h.sim ds ρ cs Φ Ψ σ H F _ Q hw.2 R L ta kk⟩
      · exact hw.elim
    | _ => exact hw.elim⟩
theorem set_dict (hu : X.A.units + 1 < cLine) : PSet X rSetD := by
  intro pins s σ H o i v ov iv u Q I ro ri rv h
  obtain ⟨a, H', rfl, p, q⟩ := h
  cases ro
  exact d_setItem hu I p ri rv fun s' I' => ⟨H', I', q⟩
theorem PSet.or {r r' : TSet} (h : PSet X r) (h' : PSet X r') : PSet X (fun o i v H Q => r o i v H Q ∨ r' o i v H Q) := fun pins s σ H o i v ov iv u Q I ro ri rv q => q.elim (h pins s σ H o i v ov iv u Q I ro ri rv) (h' pins s σ H o i v ov iv u Q I ro ri rv)
theorem set_all (hu : X.A.units + 1 < cLine) : PSet X rSetAll := DL.PSet.or set_list (set_dict hu)
theorem sim_set {o i v : V} {od id vd : D} {H : Hp} {cs : Cs} {F : Hp} {Φ : Cs → Prop} {Q : Hp → Prop} (h : wSet od id vd cs Φ) (r : Rl K H cs F) (t1 : Dt K (hid H cs F) o od) (t2 : Dt K (hid H cs F) i id) (t3 : Dt K (hid H cs F) v vd)
    (k : ∀ cs' H', Φ cs' → Rl K H' cs' F → Stp H cs H' cs' F → Q H') : rSetAll o i v H Q := by
  cases od with
  | cell a =>
    cases t1
    unfold wSet at h
    dsimp only at h
    split at h
    · rename_i ds e
      cases id with
      | int n =>
        cases t2
        obtain ⟨j, hj, q⟩ := h
        obtain ⟨vs, h1, ta⟩ := r.c a _ e
        obtain ⟨r2, s2⟩ := r.write (o := .lst (vs.set j v)) (c' := .lst (ds.set j vd)) e ⟨_, upd_same, DtA.set t3 j ta⟩
        exact .inl ⟨a, vs, n, j, rfl, rfl, h1, by rw [ta.length]; exact hj, k _ _ q r2 s2⟩
      | _ => exact h.elim
    · rename_i kvs e
      obtain ⟨ky, ek, hl, q⟩ := h
      obtain ⟨ws, h1, rel⟩ := r.c a _ e
      obtain ⟨r2, s2⟩ := r.write (o := .dK (L2.putK ws ky v)) (c' := .dict (pK kvs ky vd)) e ⟨_, upd_same, rel.putK ky t3⟩
      rw [dkey_ok t2 ek]
      exact .inr ⟨a, _, rfl, DPut.k h1 (by rw [rel.length]; exact szl hl), k _ _ q r2 s2⟩
    · exact h.elim
  | _ => exact h.elim
theorem qg_sub (hu : X.A.units + 1 < cLine) (ho : QE X W o to wo) (hi : QE X W ie ti wi)
    (ha : ∀ v, assign (.Subscript o ie pos) X.env v = (do
      let ov ← holding [v] (eval o X.env)
      let iv ← holding [v, ov] (eval ie X.env)
      standAt pos
      holding [v, ov, iv] (setItem ov iv v)
      release [v, ov, iv] []) := by intro _; rfl) : QG X W (.Subscript o ie pos) (gSub to ti rSetAll) (dgSub wo wi) :=
  ⟨pg_sub ho.pe hi.pe (set_all hu) ha, fun d ρ cs Φ Ψ σ H F v Q hw R L t k => ho.sim ρ cs _ Ψ σ H F _ hw R L fun o1 cs1 ov H1 q1 R1 s1 t1 => hi.sim ρ cs1 _ Ψ σ H1 F _ q1 R1 (L.step s1) fun i1 cs2 iv H2 q2 R2' s2 t2 =>
    sim_set q2 R2'.r (t1.mono s2.base) t2 (t.mono (s1.trans s2).base) fun cs3 H3 q3 r3 s3 => k ρ cs3 σ H3 q3 (R2'.step r3 s3) ((s1.trans s2).trans s3)⟩
end

/-! ## statements -/
def dNext : DS := fun D ρ cs => D.nx ρ cs
def dSeq (a b : DS) : DS := fun D ρ cs => a { D with nx := b D } ρ cs
def dDrop (w : DE) : DS := fun D ρ cs => w ρ cs (fun _ cs1 => D.nx ρ cs1) D.ex
/-- .. and what is dropped is a cell that goes -/
def dRet (w : DE) : DS := fun D ρ cs => w ρ cs D.rt D.ex
def dRetN : DS := fun D _ cs => D.rt .non cs
def dIf (t : DT) (a b : DS) : DS := fun D ρ cs => t ρ cs (fun c cs1 => if c = true then a D ρ cs1 else b D ρ cs1) D.ex
def dNever : DS := fun _ _ _ => False
def dBreak : DS := fun D ρ cs => D.bk ρ cs
def dCont : DS := fun D ρ cs => D.ct ρ cs
def dAsg (w : DE) (g : DG) : DS := fun D ρ cs => w ρ cs (fun d cs1 => g d ρ cs1 D.nx D.ex) D.ex
def dPar (i j : Nat) (wa : DA) : DS := fun D ρ cs => wa ρ cs (fun ds cs1 => match ds with
  | [a, b] => D.nx ((ρ.set i (some a)).set j (some b)) cs1
  | _ => False) D.ex
def dPar3 (i j l : Nat) (wa : DA) : DS := fun D ρ cs => wa ρ cs (fun ds cs1 => match ds with
  | [a, b, c] => D.nx (((ρ.set i (some a)).set j (some b)).set l (some c)) cs1
  | _ => False) D.ex
section
variable {X : Cx} {W : WX} {K : PySem.W.Frag} {st : Stmt} {rest sa sb : List Stmt} {t u : TS} {a b : DS} {e c : Expr} {te : TE} {we : DE} {tc : TT} {wt : DT} {g : TG} {wg : DG} {pos : Pos} {ta : TA} {wa : DA}
theorem LE.seq {H : Hp} {cs : Cs} {F : Hp} {D : DEnds} {D' : Ends} (L : LE K H cs F D D') {b : DS} {u : TS} (hb : SimS K W u b) (E : EL K W D.ex H cs F) : LE K H cs F { D with nx := b D } { D' with nx := u D' } :=
  ⟨fun ρ' cs' σ' H' q R s => hb ρ' cs' D σ' H' F D' q R (E.step s) (L.step s), L.rt, L.bk, L.ct⟩
theorem qss_nil : QSs X W [] tNext dNext := ⟨pss_nil, fun ρ cs D σ H F D' h R E L => L.nx ρ cs σ H h R .refl⟩
theorem qss_cons (h : QS X W st t a) (r : QSs X W rest u b) : QSs X W (st :: rest) (tSeq t u) (dSeq a b) := ⟨pss_cons h.pe r.pe, fun ρ cs D σ H F D' hw R E L => h.sim ρ cs _ σ H F _ hw R E (L.seq r.sim E)⟩
theorem qss_one (h : QS X W st t a) : QSs X W [st] t a := ⟨pss_one h.pe, h.sim⟩
theorem qs_pass : QS X W (.Pass pos) tNext dNext := ⟨ps_pass, fun ρ cs D σ H F D' h R E L => L.nx ρ cs σ H h R .refl⟩
theorem qs_break : QS X W (.Break pos) tBreak dBreak := ⟨ps_break, fun ρ cs D σ H F D' h R E L => L.bk ρ cs σ H h R .refl⟩
theorem qs_cont : QS X W (.Continue pos) tCont dCont := ⟨ps_continue, fun ρ cs D σ H F D' h R E L => L.ct ρ cs σ H h R .refl⟩
theorem qs_never : QS X W st tNever dNever := ⟨ps_never, fun ρ cs D σ H F D' h R E L => h.elim⟩
theorem qs_expr (h : QE X W e te we) (hs : swapsWith e none pos.line X.env = pure false := by rfl) : QS X W (.Expr e pos) (tDrop te) (dDrop we) :=
  ⟨ps_expr h.pe hs, fun ρ cs D σ H F D' hw R E L => h.sim ρ cs _ _ σ H F _ hw R E fun d cs1 v H1 q R1 s1 t1 => L.nx ρ cs1 σ H1 q R1 s1⟩
theorem qs_ret (h : QE X W e te we) : QS X W (.Return (some e) pos) (tRet te) (dRet we) :=
  ⟨ps_ret h.pe, fun ρ cs D σ H F D' hw R E L => h.sim ρ cs _ _ σ H F _ hw R E fun d cs1 v H1 q R1 s1 t1 => L.rt d cs1 v H1 q R1.r s1 t1⟩
theorem qs_retN : QS X W (.Return none pos) tRetN dRetN := ⟨ps_retN, fun ρ cs D σ H F D' h R E L => L.rt .non cs .non H h R.r .refl .non⟩
theorem qs_if (h : QT X W c tc wt) (ha : QSs X W sa t a) (hb : QSs X W sb u b) : QS X W (.If c sa sb pos) (tIfS tc t u) (dIf wt a b) :=
  ⟨ps_if h.pe ha.pe hb.pe, fun ρ cs D σ H F D' hw R E L => h.sim ρ cs _ _ σ H F _ hw R E fun d cs1 H1 q R1 s1 => by
    cases d with
    | true => exact ha.sim ρ cs1 D σ H1 F D' q R1 (E.step s1) (L.step s1)
    | false => exact hb.sim ρ cs1 D σ H1 F D' q R1 (E.step s1) (L.step s1)⟩
theorem asg_sim (h : SimE K W te we) (hg : SimG K W g wg) : SimS K W (tAsg te g) (dAsg we wg) := fun ρ cs D σ H F D' hw R E L => h ρ cs _ _ σ H F _ hw R E fun d cs1 v H1 q R1 s1 t1 =>
  hg d ρ cs1 _ _ σ H1 F v _ q R1 (E.step s1) t1 fun ρ2 cs2 σ2 H2 q2 R2' s2 => L.nx ρ2 cs2 σ2 H2 q2 R2' (s1.trans s2)
theorem qs_asg {tg : Expr} (h : QE X W e te we) (hg : QG X W tg g wg) (hs : swapsWithSole [tg] e pos.line X.env = pure false := by rfl) (hw : swappedStores [tg] e X.env = pure none := by rfl)
    (h1 : (assignEach [tg] X.env).map (·.2) = [assign tg X.env] := by rfl) : QS X W (.Assign [tg] e pos) (tAsg te g) (dAsg we wg) := ⟨ps_asg h.pe hg.pe hs hw h1, asg_sim h.sim hg.sim⟩
theorem qs_set {i : Nat} {x : Str} {pos' : Pos} (h : QE X W e te we) (hp : PS X (.Assign [.Name x pos'] e pos) (tAsg te (gName i))) : QS X W (.Assign [.Name x pos'] e pos) (tAsg te (gName i)) (dAsg we (dgName i)) := ⟨hp, asg_sim h.sim sim_gname⟩
theorem qs_par {i j : Nat} (h : SimA X.K W ta wa) (hp : PS X st (tPar i j ta)) : QS X W st (tPar i j ta) (dPar i j wa) := ⟨hp, fun ρ cs D σ H F D' hw R E L => h ρ cs _ _ σ H F _ hw R E fun ds cs1 vs H1 q R1 s1 t1 => by
  match ds, vs, t1, q with
  | [a, b], _, .cons ta (.cons tb .nil), q => exact ⟨_, _, rfl, L.nx _ cs1 _ H1 q ⟨R1.r, EnvR.set tb (EnvR.set ta R1.e i) j⟩ s1⟩⟩
theorem qs_par3 {i j l : Nat} (h : SimA X.K W ta wa) (hp : PS X st (tPar3 i j l ta)) : QS X W st (tPar3 i j l ta) (dPar3 i j l wa) := ⟨hp, fun ρ cs D σ H F D' hw R E L => h ρ cs _ _ σ H F _ hw R E fun ds cs1 vs H1 q R1 s1 t1 => by
  match ds, vs, t1, q with
  | [a, b, c], _, .cons ta (.cons tb (.cons tc .nil)), q => exact ⟨_, _, _, rfl, L.nx _ cs1 _ H1 q ⟨R1.r, EnvR.set tc (EnvR.set tb (EnvR.set ta R1.e i) j) l⟩ s1⟩⟩
end

/-! ## op= -/
/-- by values: two ints, two texts (+=) -/
def wIp : Operator → D → D → (D → Prop) → Prop
  | .Add, .int i, .int j, Φ => Φ (.int (i + j))
  | .Sub, .int i, .int j, Φ => Φ (.int (i - j))
  | .Add, .str x, .str y, Φ => x.length + y.length ≤ 16777216 ∧ Φ (.str (x ++ y))
  | _, _, _, _ => False
def tipAdd : TIp := fun x y H Q => (ipI fun i j => i + j) x y H Q ∨ ∃ i j, x = .str i ∧ y = .str j ∧ i.length + j.length ≤ sizeLine ∧ Q (.str (i ++ j)) H
def tipOf : Operator → TIp
  | .Add => tipAdd
  | .Sub => ipI fun i j => i - j
  | _ => fun _ _ _ _ => False
theorem pip_of {X : Cx} : ∀ (op : Operator), PIp X op (tipOf op) := fun op => by
  cases op with
  | Add =>
    intro pins s σ H x y v u Q I r1 r2 h
    rcases h with h | ⟨i, j, rfl, rfl, hl, q⟩
    · exact ip_add pins s σ H x y v u Q I r1 r2 h
    · exact iop_add_str pins s σ H _ _ v u Q I r1 r2 ⟨i, j, rfl, rfl, hl, q⟩
  | Sub => exact ip_sub
  | _ => exact fun _ _ _ _ _ _ _ _ _ _ _ _ h => h.elim
theorem sim_ip {K : PySem.W.Frag} {op : Operator} {x y : V} {d e : D} {H : Hp} {cs : Cs} {F : Hp} {Φ : D → Prop} {Q : VK} (h : wIp op d e Φ) (t1 : Dt K (hid H cs F) x d) (t2 : Dt K (hid H cs F) y e) (k : ∀ z v, Φ z → Dt K (hid H cs F) v z → Q v H) : tipOf op x y H Q := by
  cases op with
  | Add =>
    cases d with
    | int i => cases e with
      | int j => cases t1; cases t2; exact .inl ⟨i, j, rfl, rfl, k _ _ h (.int _)⟩
      | _ => exact h.elim
    | str i => cases e with
      | str j => cases t1; cases t2; exact .inr ⟨i, j, rfl, rfl, sz h.1, k _ _ h.2 (.str _)⟩
      | _ => exact h.elim
    | _ => exact h.elim
  | Sub =>
    cases d with
    | int i => cases e with
      | int j => cases t1; cases t2; exact ⟨i, j, rfl, rfl, k _ _ h (.int _)⟩
      | _ => exact h.elim
    | _ => exact h.elim
  | _ => exact h.elim
def dAug (op : Operator) (i : Nat) (w : DE) : DS := fun D ρ cs => match ρ[i]? with
  | some (some x) => w ρ cs (fun y cs1 => wIp op x y fun z => D.nx (ρ.set i (some z)) cs1) D.ex
  | _ => False
def dAugS (op : Operator) (wo wi we : DE) : DS := fun D ρ cs => wo ρ cs (fun o cs1 => wi ρ cs1 (fun i cs2 => wIxA o i cs2 (fun x cs3 => we ρ cs3 (fun y cs4 => wIp op x y fun z => wSet o i z cs4 (fun cs5 => D.nx ρ cs5)) D.ex)) D.ex) D.ex
/-- o.f op= e -/
def dAugF (op : Operator) (C : Addr) (f : Str) (wo we : DE) : DS := fun D ρ cs => wo ρ cs (fun o cs1 => match o with
  | .cell a => ∃ fs x, cs1 a = some (.obj C fs) ∧ fs.lookup f = some x ∧ we ρ cs1 (fun y cs2 => wIp op x y fun z => ∃ fs', cs2 a = some (.obj C fs') ∧ fs'.length < 1000 ∧ D.nx ρ (setc cs2 a (.obj C (putD f z fs')))) D.ex
  | _ => False) D.ex
def rGetAll (K : PySem.W.Frag) : R2 := rIxAll K
section
variable {X : Cx} {W : WX} {K : PySem.W.Frag} {o ie e : Expr} {to ti te : TE} {wo wi we : DE} {pos tpos : Pos} {op : Operator}
theorem qs_aug {i : Nat} {x : Str} {pos' : Pos} (h : QE X W e te we) (hp : PS X (.AugAssign (.Name x pos') op e pos) (tAug i te (tipOf op))) : QS X W (.AugAssign (.Name x pos') op e pos) (tAug i te (tipOf op)) (dAug op i we) :=
  ⟨hp, fun ρ cs D σ H F D' hw R E L => by
    unfold dAug at hw
    split at hw
    · rename_i d ed
      obtain ⟨v, e1, t1⟩ := R.e.get ed
      refine ⟨v, e1, h.sim ρ cs _ _ σ H F _ hw R E fun y cs1 u H1 q R1 s1 t2 => ?_⟩
      exact sim_ip q (t1.mono s1.base) t2 fun z v q t => L.nx _ cs1 _ H1 q ⟨R1.r, EnvR.set t R1.e i⟩ s1
    · exact hw.elim⟩
end
end DL
namespace DL
open PySem PySem.Spec PyProof.Rows L2

/-! ## o[i] op= e, o.f op= e -/
section
variable {X : Cx} {W : WX} {K : PySem.W.Frag} {o ie e : Expr} {to ti te : TE} {wo wi we : DE} {pos tpos : Pos} {op : Operator} {C : Addr} {f : Str}
def rGetLD (K : PySem.W.Frag) : R2 := fun x y H Q => rIxL K x y H Q ∨ rIxD x y H Q
theorem get_ld (hu : X.A.units + 1 < cLine) : PGet X (rGetLD X.K) := by
  intro pins s σ H x y v u Q I rx ry h
  rcases h with h | h
  · obtain ⟨p, xs, i, z, rfl, rfl, hq, he, q⟩ := h
    cases rx
    obtain ⟨t, rfl⟩ := ry
    obtain ⟨its, r, pl, hz⟩ := I.list hq
    obtain ⟨j, h1, h2, h3, h4, h5⟩ := atI_get he
    obtain ⟨w, ew, rw'⟩ := r.get h2
    have hl := r.length
    have hn := line63
    have fin : EP X pins σ Q w s := ⟨z, H, I, rw', q⟩
    by_cases h0 : 0 ≤ i
    · have hj : i.toNat = j := by
        rw [seqIndex_of h0 h5] at h1
        exact Option.some.inj h1
      exact wpAny_getItem_list pl.isList h0 (by omega) (by rw [hj]; simpa using ew) fin
    · have hj : (i + (its.toArray.size : Int)).toNat = j := by
        rw [seqIndex_neg (by omega) h4] at h1
        rw [List.size_toArray, ← hl]
        exact Option.some.inj h1
      exact wpAny_getItem_list_neg pl.isList (by omega) (by rw [List.size_toArray] <;> omega) (by omega) (by rw [hj]; simpa using ew) fin
  · obtain ⟨a, w, rfl, g, q⟩ := h
    cases rx
    exact d_getItem hu I g ry fun w' s' I' rw' => ⟨w, H, I', rw', q⟩
/-- what is read by o[i] op= e: a cell -/
def wGetC : DR := fun x y cs Φ => match x with
  | .cell a => match cs a with
    | some (.lst ds) => match y with
      | .int i => ∃ d, atI ds i = some d ∧ Φ d cs
      | _ => False
    | some (.dict kvs) => ∃ k d, dkey y = some k ∧ vK kvs k = some d ∧ Φ d cs
    | _ => False
  | _ => False
theorem simGetC : SimR K (rGetLD K) wGetC := fun x y d e H cs F Φ Q h r h1 h2 k => by
  cases d with
  | cell a =>
    unfold wGetC at h
    dsimp only at h
    split at h
    · rename_i ds hc
      cases e with
      | int i =>
        cases h2
        obtain ⟨d', e2, q⟩ := h
        obtain ⟨vs, h3, ta⟩ := r.c a _ hc
        obtain ⟨v, ev, qv⟩ := atI_dt ta e2
        cases h1
        exact .inl ⟨a, vs, i, v, rfl, rfl, SqL.of h3, ev, k _ cs _ H q r .refl qv⟩
      | _ => exact h.elim
    · rename_i kvs hc
      obtain ⟨ky, d', ek, ev, q⟩ := h
      obtain ⟨ws, hw, rel⟩ := r.c a _ hc
      obtain ⟨v, hv, qv⟩ := (rel.val ky).1 d' ev
      cases h1
      rw [dkey_ok h2 ek]
      exact .inr ⟨a, v, rfl, by rw [← hv]; exact DGet.k hw, k _ cs v H q r .refl qv⟩
    · exact h.elim
  | _ => exact h.elim
def dAugS2 (op : Operator) (wo wi we : DE) : DS := fun D ρ cs => wo ρ cs (fun o cs1 => wi ρ cs1 (fun i cs2 => wGetC o i cs2 (fun x cs3 => we ρ cs3 (fun y cs4 => wIp op x y fun z => wSet o i z cs4 (fun cs5 => D.nx ρ cs5)) D.ex)) D.ex) D.ex
theorem qs_augS (hu : X.A.units + 1 < cLine) (ho : QE X W o to wo) (hi : QE X W ie ti wi) (he : QE X W e te we)
    (ha : ∀ ov iv new, augStore ie ov iv new = (do holding [new, ov, iv] (setItem ov iv new); release [new, ov, iv] []; pure .next) := by intros; rfl) : QS X W (.AugAssign (.Subscript o ie tpos) op e pos) (tAugS to ti te (rGetLD X.K) (tipOf op) rSetAll) (dAugS2 op wo wi we) :=
  ⟨ps_augS ho.pe hi.pe (get_ld hu) he.pe (pip_of op) (set_all hu) ha, fun ρ cs D σ H F D' hw R E L => ho.sim ρ cs _ _ σ H F _ hw R E fun od cs1 ov H1 q1 R1 s1 t1 => hi.sim ρ cs1 _ _ σ H1 F _ q1 R1 (E.step s1) fun id cs2 iv H2 q2 R2' s2 t2 =>
    simGetC ov iv od id H2 cs2 F _ _ q2 R2'.r (t1.mono s2.base) t2 fun x cs3 v3 H3 q3 r3 s3 t3 => he.sim ρ cs3 _ _ σ H3 F _ q3 (R2'.step r3 s3) (E.step ((s1.trans s2).trans s3)) fun y cs4 v4 H4 q4 R4 s4 t4 =>
      sim_ip q4 (t3.mono s4.base) t4 fun z v5 q5 t5 => sim_set q5 R4.r (t1.mono (((s2.trans s3).trans s4).base)) (t2.mono (s3.trans s4).base) t5 fun cs6 H6 q6 r6 s6 => L.nx ρ cs6 σ H6 q6 (R4.step r6 s6) ((((s1.trans s2).trans s3).trans s4).trans s6)⟩
theorem inop_of : InOp X op (tipOf op) := fun pins s σ H x y u v Q I rx ry h => pip_of op pins s σ H x y u v Q I rx ry h
theorem qs_augF (c : Cls X.K C) (n : NoAttr X.K C f) (ho : QE X W o to wo) (he : QE X W e te we) : QS X W (.AugAssign (.Attribute o f tpos) op e pos) (sFldAug X.K to te (tipOf op) f) (dAugF op C f wo we) :=
  ⟨ps_fldaug ho.pe he.pe inop_of, fun ρ cs D σ H F D' hw R E L => ho.sim ρ cs _ _ σ H F _ hw R E fun od cs1 ov H1 q1 R1 s1 t1 => by
    cases od with
    | cell a =>
      cases t1
      obtain ⟨fs, x, e1, l1, q1⟩ := q1
      obtain ⟨dx, ws, e2, rel⟩ := R1.r.c a _ e1
      obtain ⟨u, l2, t2⟩ := (rel.lookup (f := f)).1 x l1
      refine ⟨a, C, dx, ws, u, rfl, e2, c, n, l2, he.sim ρ cs1 _ _ σ H1 F _ q1 R1 (E.step s1) fun y cs2 v2 H2 q2 R2' s2 t3 => sim_ip q2 (t2.mono s2.base) t3 fun z v3 q3 t4 => ?_⟩
      obtain ⟨fs', e3, l3, q3⟩ := q3
      obtain ⟨dx', ws', e4, rel'⟩ := R2'.r.c a _ e3
      obtain ⟨r3, s3⟩ := R2'.r.write (o := .ins C dx' (putF f v3 ws')) (c' := .obj C (putD f z fs')) e3 ⟨dx', _, upd_same, rel'.put t4⟩
      exact ⟨dx', ws', e4, by rw [rel'.length]; exact l3, L.nx ρ _ σ _ q3 (R2'.step r3 s3) ((s1.trans s2).trans s3)⟩
    | _ => exact q1.elim⟩
end

/-! ## what is walked -/
structure Yld (K : PySem.W.Frag) (J : It) (B : Hp) (items : List D) (keep : Cs → Prop) : Prop where
  go : ∀ i H cs F, Rl K H cs F → Same B (hid H cs F) → keep cs → i < items.length → J.go i H
  stop : ∀ i H cs F, Rl K H cs F → Same B (hid H cs F) → keep cs → items.length ≤ i → J.stop i H
  yld : ∀ i H cs F x H' d, Rl K H cs F → Same B (hid H cs F) → keep cs → items[i]? = some d → J.yld i H x H' → Rl K H' cs F ∧ Stp H cs H' cs F ∧ Dt K (hid H' cs F) x d
abbrev DI := EnvD → Cs → (List D → (Cs → Prop) → Cs → Prop) → EK → Prop
def SimI (K : PySem.W.Frag) (W : WX) (wi : TI) (w : DI) : Prop :=
  ∀ ρ cs Φ Ψ σ H F (R : It → Hp → Prop), w ρ cs Φ Ψ → RS K σ H ρ cs F → EL K W Ψ H cs F →
    (∀ items keep cs' H' J, Φ items keep cs' → RS K σ H' ρ cs' F → Stp H cs H' cs' F → Yld K J (hid H' cs' F) items keep → R J H') → wi σ H R
structure QI (X : Cx) (W : WX) (tg iter : Expr) (wi : TI) (w : DI) : Prop where
  pe : PI X tg iter wi
  sim : SimI X.K W wi w
/-- for -/
def dFor (wi : DI) (wg : DG) (wb : DS) : DS := fun D ρ cs => wi ρ cs (fun items keep cs1 => ∃ I : Nat → EnvD → Cs → Prop, I 0 ρ cs1 ∧ ∀ i ρ2 cs2, I i ρ2 cs2 → keep cs2 ∧
  (∀ x, items[i]? = some x → wg x ρ2 cs2 (fun ρ3 cs3 => wb { D with nx := I (i + 1), ct := I (i + 1), bk := D.nx } ρ3 cs3) D.ex) ∧ (i = items.length → D.nx ρ2 cs2)) D.ex
def dWhile (wt : DT) (wb : DS) : DS := fun D ρ cs => ∃ I : Nat → EnvD → Cs → Prop, (∃ m, I m ρ cs) ∧ ∀ m ρ2 cs2, I m ρ2 cs2 →
  wt ρ2 cs2 (fun b cs3 => if b = true then wb { D with nx := fun ρ' cs' => ∃ m', m' < m ∧ I m' ρ' cs', ct := fun ρ' cs' => ∃ m', m' < m ∧ I m' ρ' cs', bk := D.nx } ρ2 cs3 else D.nx ρ2 cs3) D.ex
section
variable {X : Cx} {W : WX} {K : PySem.W.Frag} {tg iter : Expr} {body : List Stmt} {wi : TI} {w : DI} {g : TG} {wg : DG} {tb : TS} {wb : DS} {pos : Pos} {c : Expr} {tc : TT} {wt : DT}
theorem for_sim (hi : SimI K W wi w) (hg : SimG K W g wg) (hb : SimS K W tb wb) : SimS K W (tFor wi g tb) (dFor w wg wb) := fun ρ cs D σ H F D' hw R E L => hi ρ cs _ _ σ H F _ hw R E fun items keep cs1 H1 J q R1 s1 Y => by
  obtain ⟨I, h0, hs⟩ := q
  refine ⟨fun i m σ' H' => m = items.length - i ∧ i ≤ items.length ∧ ∃ ρ' cs', I i ρ' cs' ∧ RS K σ' H' ρ' cs' F ∧ Stp H1 cs1 H' cs' F, ⟨_, rfl, Nat.zero_le _, ρ, cs1, h0, R1, .refl⟩, ?_⟩
  rintro i m σ2 H2 ⟨rfl, hi, ρ2, cs2, h2, R2', s2⟩
  obtain ⟨kp, turn, done⟩ := hs i ρ2 cs2 h2
  by_cases hlt : i < items.length
  · refine .inr ⟨Y.go i H2 cs2 F R2'.r s2.base kp hlt, fun σ' H' => i + 1 ≤ items.length ∧ ∃ ρ' cs', I (i + 1) ρ' cs' ∧ RS K σ' H' ρ' cs' F ∧ Stp H1 cs1 H' cs' F, fun σ' H' ⟨h1, h3⟩ => ⟨_, by omega, rfl, h1, h3⟩, fun x H3 y => ?_⟩
    have ex := List.getElem?_eq_getElem hlt
    obtain ⟨r3, s3, t3⟩ := Y.yld i H2 cs2 F x H3 _ R2'.r s2.base kp ex y
    have S := s1.trans (s2.trans s3)
    refine hg _ ρ2 cs2 _ _ σ2 H3 F x _ (turn _ ex) (R2'.step r3 s3) (E.step S) t3 fun ρ4 cs4 σ4 H4 q4 R4 s4 => ?_
    have L4 := L.step (S.trans s4)
    refine hb ρ4 cs4 _ σ4 H4 F _ q4 R4 (E.step (S.trans s4)) ⟨fun ρ' cs' σ' H' q r s => ⟨hlt, ρ', cs', q, r, (s2.trans s3).trans (s4.trans s)⟩, L4.rt, fun ρ' cs' σ' H' q r s => L4.nx ρ' cs' σ' H' q r s, fun ρ' cs' σ' H' q r s => ⟨hlt, ρ', cs', q, r, (s2.trans s3).trans (s4.trans s)⟩⟩
  · have e : i = items.length := by omega
    exact .inl ⟨Y.stop i H2 cs2 F R2'.r s2.base kp (by omega), L.nx ρ2 cs2 σ2 H2 (done e) R2' (s1.trans s2)⟩
theorem qs_for (hp : PassesOwn (model X.prog X.w) X.A X.env X.xe) (hc : X.calm = true) (hi : QI X W tg iter wi w) (hg : QG X W tg g wg) (hb : QSs X W body tb wb) (hs : ∀ x, foldedSetIterable iter X.env x = pure x := by intro _; rfl) :
    QS X W (.For tg iter body [] pos) (tFor wi g tb) (dFor w wg wb) := ⟨ps_for hp hc hi.pe hg.pe hb.pe hs, for_sim hi.sim hg.sim hb.sim⟩
theorem qs_while (hp : PassesOwn (model X.prog X.w) X.A X.env X.xe) (ht : QT X W c tc wt) (hb : QSs X W body tb wb) : QS X W (.While c body [] pos) (tWhile tc tb) (dWhile wt wb) :=
  ⟨ps_while hp ht.pe hb.pe, fun ρ cs D σ H F D' hw R E L => by
    obtain ⟨I, ⟨m0, h0⟩, hs⟩ := hw
    refine ⟨fun m σ' H' => ∃ ρ' cs', I m ρ' cs' ∧ RS X.K σ' H' ρ' cs' F ∧ Stp H cs H' cs' F, ⟨m0, ρ, cs, h0, R, .refl⟩, ?_⟩
    rintro m σ2 H2 ⟨ρ2, cs2, h2, R2', s2⟩
    refine ht.sim ρ2 cs2 _ _ σ2 H2 F _ (hs m ρ2 cs2 h2) R2' (E.step s2) fun b cs3 H3 q R3 s3 => ?_
    have S := s2.trans s3
    have L3 := L.step S
    cases b with
    | true =>
      refine ⟨_, fun σ' H' hN => hN, hb.sim ρ2 cs3 _ σ2 H3 F _ q R3 (E.step S) ⟨fun ρ' cs' σ' H' ⟨m', hm, q⟩ r s => ⟨m', hm, ρ', cs', q, r, S.trans s⟩, L3.rt, fun ρ' cs' σ' H' q r s => L3.nx ρ' cs' σ' H' q r s, fun ρ' cs' σ' H' ⟨m', hm, q⟩ r s => ⟨m', hm, ρ', cs', q, r, S.trans s⟩⟩⟩
    | false => exact L3.nx ρ2 cs3 σ2 H3 q R3 .refl⟩
end

/-! ### sources -/
section
variable {X : Cx} {W : WX} {K : PySem.W.Frag} {tg e : Expr} {te : TE} {we : DE} {ta : TA} {wa : DA}
/-- a list or a tuple -/
def iSeq (K : PySem.W.Frag) (tl : TE) : TI := fun σ H R => tl σ H fun x H1 => ∃ a, x = .ref a ∧ ((∃ xs, SqL K H1 a xs ∧ R (Itl K a) H1) ∨ ∃ xs, SqT K H1 a xs ∧ R (Itt K a) H1)
theorem pi_seq (hl : PE X e te) : PI X tg e (iSeq X.K te) := by
  refine ⟨fun pins s σ H R I h => ?_⟩
  refine thn (hl.run pins s σ H _ I h) fun v s1 ⟨x, H1, I1, r1, q1⟩ => ?_
  obtain ⟨a, ex, q⟩ := q1
  subst ex
  cases r1
  rcases q with ⟨xs, hq, q⟩ | ⟨xs, hq, q⟩
  · obtain ⟨its, rv, p, hz⟩ := I1.list hq
    refine wpAny_pyIter_list p.isList ?_
    refine ⟨s1.heap.objs.size, [s1.heap.objs.size], _, _, H1, rfl, I1.kept (t' := s1.toks) fun b o e => Heap.get?_push_of_some _ e, turn_list a _, ⟨_, Heap.get?_push_size _ rfl, rfl, rfl⟩, fun b hb => ?_, q⟩
    have e : b = s1.heap.objs.size := by simpa using hb
    subst e
    exact I1.fpOk (Nat.le_refl _) (I1.hok.fresh (Nat.le_refl _))
  · obtain ⟨its, rv, p, hz⟩ := I1.tuple hq
    refine wpAny_pyIter_tuple (show s1.heap.IsTuple a its.toArray from p) ?_
    refine ⟨s1.heap.objs.size, [s1.heap.objs.size], _, _, H1, rfl, I1.kept (t' := s1.toks) fun b o e => Heap.get?_push_of_some _ e, turn_tuple a _, ⟨_, Heap.get?_push_size _ rfl, rfl, rfl⟩, fun b hb => ?_, q⟩
    have e : b = s1.heap.objs.size := by simpa using hb
    subst e
    exact I1.fpOk (Nat.le_refl _) (I1.hok.fresh (Nat.le_refl _))
def diSeq (w : DE) : DI := fun ρ cs Φ Ψ => w ρ cs (fun d cs1 => match d with
  | .tup ds => Φ ds (fun _ => True) cs1
  | .lst ds => Φ ds (fun _ => True) cs1
  | .rl ds => Φ ds (fun _ => True) cs1
  | .cell a => match cs1 a with
    | some (.lst ds) => Φ ds (fun cs => cs a = some (.lst ds)) cs1
    | _ => False
  | _ => False) Ψ
theorem yld_l {B : Hp} {ds : List D} {keep : Cs → Prop} {a : Addr} (h : ∀ H cs F, Rl K H cs F → Same B (hid H cs F) → keep cs → ∃ vs, SqL K H a vs ∧ DtA K (hid H cs F) vs ds) : Yld K (Itl K a) B ds keep where
  go := fun i H cs F r s k hi => by
    obtain ⟨vs, h1, t⟩ := h H cs F r s k
    obtain ⟨v, e, _⟩ := t.get (List.getElem?_eq_getElem hi)
    exact ⟨vs, v, h1, e⟩
  stop := fun i H cs F r s k hi => by
    obtain ⟨vs, h1, t⟩ := h H cs F r s k
    exact ⟨vs, h1, by rw [t.length]; exact hi⟩
  yld := fun i H cs F x H' d r s k e y => by
    obtain ⟨vs, h1, t⟩ := h H cs F r s k
    obtain ⟨rfl, y⟩ := y
    obtain ⟨v, e2, q⟩ := t.get e
    have e3 := y vs h1
    rw [e2] at e3
    cases e3
    exact ⟨r, .refl, q⟩
theorem yld_t {B : Hp} {ds : List D} {vs : List V} {a : Addr} (h : SqT K B a vs) (t : DtA K B vs ds) : Yld K (Itt K a) B ds (fun _ => True) where
  go := fun i H cs F r s k hi => by
    obtain ⟨v, e, _⟩ := t.get (List.getElem?_eq_getElem hi)
    exact ⟨vs, v, same_t hid_sub (same_t s h), e⟩
  stop := fun i H cs F r s k hi => ⟨vs, same_t hid_sub (same_t s h), by rw [t.length]; exact hi⟩
  yld := fun i H cs F x H' d r s k e y => by
    obtain ⟨rfl, y⟩ := y
    obtain ⟨v, e2, q⟩ := t.get e
    have e3 := y vs (same_t hid_sub (same_t s h))
    rw [e2] at e3
    cases e3
    exact ⟨r, .refl, q.mono s⟩
theorem sim_seq (h : SimE K W te we) : SimI K W (iSeq K te) (diSeq we) := fun ρ cs Φ Ψ σ H F R' hw R L k => h ρ cs _ _ σ H F _ hw R L fun d cs1 v H1 q R1 s1 t1 => by
  cases d with
  | tup ds =>
    cases t1 with | @tup a xs _ sa ta => exact ⟨a, rfl, .inr ⟨xs, same_t hid_sub sa, k _ _ cs1 H1 _ q R1 s1 (yld_t sa ta)⟩⟩
  | lst ds =>
    cases t1 with | @lst a xs _ sa ta => exact ⟨a, rfl, .inl ⟨xs, SqL.of (hid_sub _ _ sa), k _ _ cs1 H1 _ q R1 s1 (yld_l fun H cs F r s _ => ⟨xs, SqL.of (hid_sub _ _ (s _ _ sa)), ta.mono s⟩)⟩⟩
  | rl ds =>
    cases t1 with | @rl a xs _ sa ta => exact ⟨a, rfl, .inl ⟨xs, same_l hid_sub sa, k _ _ cs1 H1 _ q R1 s1 (yld_l fun H cs F r s _ => ⟨xs, same_l hid_sub (same_l s sa), ta.mono s⟩)⟩⟩
  | cell a =>
    cases t1
    dsimp only at q
    split at q
    · rename_i ds e
      obtain ⟨vs, h1, ta⟩ := R1.r.c a _ e
      exact ⟨a, rfl, .inl ⟨vs, SqL.of h1, k _ _ cs1 H1 _ q R1 s1 (yld_l fun H cs F r s kp => by
        obtain ⟨us, h2, tb⟩ := r.c a _ kp
        exact ⟨us, SqL.of h2, tb⟩)⟩⟩
    · exact q.elim
  | _ => exact q.elim
theorem qi_seq (h : QE X W e te we) : QI X W tg e (iSeq X.K te) (diSeq we) := ⟨pi_seq h.pe, sim_seq h.sim⟩
/-- ranges -/
def rng (lo : Int) (n : Nat) : List D := (List.range n).map fun (i : Nat) => D.int (lo + (i : Int))
theorem rng_length {lo : Int} {n : Nat} : (rng lo n).length = n := by simp [rng]
theorem rng_get {lo : Int} {n i : Nat} {d : D} (h : (rng lo n)[i]? = some d) : i < n ∧ d = .int (lo + (i : Int)) := by
  unfold rng at h
  rw [List.getElem?_map] at h
  by_cases hi : i < n
  · rw [List.getElem?_range hi] at h; cases h; exact ⟨hi, rfl⟩
  · rw [List.getElem?_eq_none (by simpa using hi)] at h; cases h
theorem yld_r {B : Hp} {lo : Int} {n : Nat} : Yld K (Itr lo n) B (rng lo n) (fun _ => True) where
  go := fun i H cs F r s k hi => by rw [rng_length] at hi; exact hi
  stop := fun i H cs F r s k hi => by rw [rng_length] at hi; exact hi
  yld := fun i H cs F x H' d r s k e y => by
    obtain ⟨rfl, rfl⟩ := y
    obtain ⟨_, rfl⟩ := rng_get e
    exact ⟨r, .refl, .int _⟩
def diRng1 (w : DA) : DI := fun ρ cs Φ Ψ => w ρ cs (fun ds cs1 => match ds with
  | [.int j] => -(2 ^ 62) ≤ j ∧ j < 2 ^ 62 ∧ Φ (rng 0 j.toNat) (fun _ => True) cs1
  | _ => False) Ψ
def diRng2 (w : DA) : DI := fun ρ cs Φ Ψ => w ρ cs (fun ds cs1 => match ds with
  | [.int i, .int j] => -(2 ^ 62) ≤ i ∧ i < 2 ^ 62 ∧ -(2 ^ 62) ≤ j ∧ j < 2 ^ 62 ∧ Φ (rng i (j - i).toNat) (fun _ => True) cs1
  | _ => False) Ψ
theorem sim_rng1 (h : SimA K W ta wa) : SimI K W (iRng1 ta) (diRng1 wa) := fun ρ cs Φ Ψ σ H F R' hw R L k => h ρ cs _ _ σ H F _ hw R L fun ds cs1 vs H1 q R1 s1 t1 => by
  match ds, vs, t1, q with
  | [.int j], _, .cons (.int _) .nil, q => exact ⟨j, rfl, q.1, q.2.1, k _ _ cs1 H1 _ q.2.2 R1 s1 yld_r⟩
theorem sim_rng2 (h : SimA K W ta wa) : SimI K W (iRng2 ta) (diRng2 wa) := fun ρ cs Φ Ψ σ H F R' hw R L k => h ρ cs _ _ σ H F _ hw R L fun ds cs1 vs H1 q R1 s1 t1 => by
  match ds, vs, t1, q with
  | [.int i, .int j], _, .cons (.int _) (.cons (.int _) .nil), q => exact ⟨i, j, rfl, ⟨q.1, q.2.1, q.2.2.1, q.2.2.2.1⟩, k _ _ cs1 H1 _ q.2.2.2.2 R1 s1 yld_r⟩
theorem qi_rng1 {a : Expr} {p pos : Pos} (hg : Gl X "range") (hm : X.mg "range" = none) (h : QA X W [a] ta wa) (hs : starEach [a] X.env = [(false, eval a X.env)] := by rfl) : QI X W tg (.Call (.Name "range" p) [a] [] pos) (iRng1 ta) (diRng1 wa) := ⟨pi_range1 hg hm h.pe hs, sim_rng1 h.sim⟩
theorem qi_rng2 {a b : Expr} {p pos : Pos} (hg : Gl X "range") (hm : X.mg "range" = none) (h : QA X W [a, b] ta wa) (hs : starEach [a, b] X.env = [(false, eval a X.env), (false, eval b X.env)] := by rfl) (hs2 : starEach [b] X.env = [(false, eval b X.env)] := by rfl) :
    QI X W tg (.Call (.Name "range" p) [a, b] [] pos) (iRng2 ta) (diRng2 wa) := ⟨pi_range2 hg hm h.pe hs hs2, sim_rng2 h.sim⟩
/-- enumerate of a list -/
def enumD (ds : List D) : List D := (List.range ds.length).map fun (i : Nat) => D.tup [.int (i : Int), ds.getD i .non]
theorem enumD_length {ds : List D} : (enumD ds).length = ds.length := by simp [enumD]
theorem enumD_get {ds : List D} {i : Nat} {d : D} (h : (enumD ds)[i]? = some d) : ∃ x, ds[i]? = some x ∧ d = .tup [.int (i : Int), x] := by
  unfold enumD at h
  rw [List.getElem?_map] at h
  by_cases hi : i < ds.length
  · rw [List.getElem?_range hi] at h; cases h
    exact ⟨ds[i], List.getElem?_eq_getElem hi, by show D.tup [.int (i : Int), ds.getD i .non] = _; rw [List.getD_eq_getElem?_getD, List.getElem?_eq_getElem hi]; rfl⟩
  · rw [List.getElem?_eq_none (by simpa using hi)] at h; cases h
theorem enum_tup {H : Hp} {cs : Cs} {F : Hp} {T : Addr} {v : V} {x : D} {i : Nat} (r : Rl K H cs F) (hT : H T = none) (q : Dt K (hid H cs F) v x) :
    Rl K (upd H T (.tup [.int (i : Nat), v])) cs F ∧ Stp H cs (upd H T (.tup [.int (i : Nat), v])) cs F ∧ Dt K (hid (upd H T (.tup [.int (i : Nat), v])) cs F) (.ref T) (.tup [.int (i : Int), x]) :=
  r.tup (.cons (.int _) (.cons q .nil)) hT
theorem yld_e {B : Hp} {ds : List D} {keep : Cs → Prop} {a : Addr} (h : ∀ H cs F, Rl K H cs F → Same B (hid H cs F) → keep cs → ∃ vs, SqL K H a vs ∧ DtA K (hid H cs F) vs ds) : Yld K (Ite K a) B (enumD ds) keep where
  go := fun i H cs F r s k hi => by
    rw [enumD_length] at hi
    obtain ⟨vs, h1, t⟩ := h H cs F r s k
    obtain ⟨v, e, _⟩ := t.get (List.getElem?_eq_getElem hi)
    exact ⟨vs, v, h1, e⟩
  stop := fun i H cs F r s k hi => by
    rw [enumD_length] at hi
    obtain ⟨vs, h1, t⟩ := h H cs F r s k
    exact ⟨vs, h1, by rw [t.length]; exact hi⟩
  yld := fun i H cs F x H' d r s k e y => by
    obtain ⟨vs, h1, t⟩ := h H cs F r s k
    obtain ⟨T, w, rfl, hT, rfl, y⟩ := y
    obtain ⟨z, ez, rfl⟩ := enumD_get e
    obtain ⟨v, e2, q⟩ := t.get ez
    have e3 := y vs h1
    rw [e2] at e3
    cases e3
    exact enum_tup r hT q
def diEnum (w : DA) : DI := fun ρ cs Φ Ψ => w ρ cs (fun ds cs1 => match ds with
  | [.lst ds] => Φ (enumD ds) (fun _ => True) cs1
  | [.rl ds] => Φ (enumD ds) (fun _ => True) cs1
  | [.tup ds] => Φ (enumD ds) (fun _ => True) cs1
  | [.cell a] => match cs1 a with
    | some (.lst ds) => Φ (enumD ds) (fun cs => cs a = some (.lst ds)) cs1
    | _ => False
  | _ => False) Ψ
end
end DL
namespace DL
open PySem PySem.Spec PyProof.Rows L2

/-! ## enumerate of a tuple -/
set_option maxHeartbeats 1000000 in
theorem meets_enum_newB1 {v : Value} {o : Obj} {H : Heap → Prop} (B : Begins v o H) :
    Meets (Builtin.«enumerate.__new__» ⟨[.type "enumerate", v], []⟩) (fun _ R s => H s.heap ∧
      R (.ok (.ret (.ref (s.heap.push o).objs.size))) { s with heap := (s.heap.push o).push { cls := .type "enumerate", data := .fields #[.none, .bool false, .ref s.heap.objs.size, rawInt 0, .none, .none] } }) :=
  .of_wp fun prog w A R s h => by
    obtain ⟨hp, g, d, tk, os⟩ := s; obtain ⟨h1, h⟩ := h
    have hsub := sub_enumerate
    have q1 : ∀ {A' : Around} {E : Value → Shared → Prop} {Q : Value → Shared → Prop}, Q (.ref hp.objs.size) ⟨hp.push o, g, d, tk, os⟩ → wpAny (model prog w) A' (pyIter v) Q E ⟨hp, g, d, tk, os⟩ :=
      fun q => B.iter prog w _ _ ⟨hp, g, d, tk, os⟩ _ h1 q
    wp_walk using q1
    refine wpAny_stack_any fun st => wpAny_pure ?_
    split
    · rename_i c _ _ _ _ _
      cases (c == Value.type "enumerate")
      · wp_walk using q1
        exact ⟨_, rfl, h⟩
      · wp_walk using q1
        exact ⟨_, rfl, h⟩
    · wp_walk using q1
      exact ⟨_, rfl, h⟩
theorem call_enumB1 {prog : Program} {w : World} {A : Around} {E : Value → Shared → Prop} {s : Shared} {v : Value} {o : Obj} {H : Heap → Prop} {Q : Value → Shared → Prop} (B : Begins v o H) (h1 : H s.heap)
    (h : ∀ h', IsEnum h' (s.heap.objs.size + 1) s.heap.objs.size 0 .none → h'.get? s.heap.objs.size = some o → h'.objs.size = s.heap.objs.size + 2 →
      (∀ b o, s.heap.get? b = some o → h'.get? b = some o) → Q (.ref (s.heap.objs.size + 1)) { s with heap := h' }) :
    wpAny (model prog w) A (call (.type "enumerate") [v]) Q E s := by
  refine callType_new F.called_enumerate (by decide) (F.typeCall_enumerate_1 _) (F.newCall_enumerate_1 _) (fun obj => F.args_object_init_2 obj _) F.entry_enumerate_new
    (meets_enum_newB1 B) ⟨h1, ?_⟩
  have hz : (s.heap.push o).objs.size = s.heap.objs.size + 1 := Heap.size_push ..
  show _ ∧ _
  rw [hz]
  have he : IsEnum ((s.heap.push o).push { cls := .type "enumerate", data := .fields #[.none, .bool false, .ref s.heap.objs.size, rawInt 0, .none, .none] }) (s.heap.objs.size + 1) s.heap.objs.size 0 .none := by
    have := Heap.get?_push_size (s.heap.push o) (o := { cls := .type "enumerate", data := .fields #[.none, .bool false, .ref s.heap.objs.size, rawInt 0, .none, .none] }) rfl
    rw [hz] at this; exact this
  refine ⟨⟨_, he, rfl⟩, h _ he (Heap.get?_push_of_some _ (Heap.get?_push_size _ B.free)) (by rw [Heap.size_push, hz]) fun b o x => Heap.get?_push_of_some _ (Heap.get?_push_of_some _ x)⟩
/-- the tuple at a, each item in a new pair -/
def IteT (K : PySem.W.Frag) (a : Addr) : It :=
  ⟨fun i H => ∃ (xs : List V) (x : V), SqT K H a xs ∧ xs[i]? = some x, fun i H v H' => ∃ T x, v = .ref T ∧ H T = none ∧ H' = upd H T (.tup [.int (i : Nat), x]) ∧ ∀ xs, SqT K H a xs → xs[i]? = some x, fun i H => ∃ xs : List V, SqT K H a xs ∧ xs.length ≤ i⟩
theorem turn_enumT {P : Program} {w : World} {K : PySem.W.Frag} {elts : List Expr} {kk : Nat} {tpos : Pos} (a e it : Addr) (ha : a ≠ it) (hae : a ≠ e) :
    Turn P w K (.Tuple elts kk tpos) (IteT K a) [e, it] e (fun i h => (∃ old, IsEnum h e it ((i : Nat) : Int) old) ∧ h.IsTupleIter it a i ∧ e ≠ it) where
  mem := by simp
  obj := fun i h st b hb => by
    obtain ⟨⟨old, he⟩, ⟨o, ho, hc, hd⟩, _⟩ := st
    have e' : b = e ∨ b = it := by simpa using hb
    rcases e' with z | z
    · rw [z]; exact ⟨_, he, fun v q => nomatch q⟩
    · rw [z]; exact ⟨o, ho, fun v q => by rw [hd] at q; cases q⟩
  keep := fun i h h' st k => let ⟨⟨old, he⟩, hi, hne⟩ := st; ⟨⟨old, k e (by simp) _ he⟩, hi.at fun o q => k it (by simp) o q, hne⟩
  item := by
    intro X hP hw hK hc i pins s σ H E I hf st hg
    subst hP hw hK
    obtain ⟨⟨old, he⟩, hit, hne⟩ := st
    obtain ⟨xs, x, hq, hx⟩ := hg
    obtain ⟨its, rv, p, hz⟩ := I.tuple hq
    obtain ⟨u, hu, ru⟩ := rv.get hx
    have hel : e < s.heap.objs.size := Heap.lt_size he
    have hil : it < s.heap.objs.size := by obtain ⟨_, q, _⟩ := hit; exact Heap.lt_size q
    have hlt : i < its.toArray.size := by
      have := (List.getElem?_eq_some_iff.mp hu).1
      simpa using this
    refine wpAny_pyNext_enum_itemD (Draws.tuple (A := X.A.in1) (show X.A.in1.handled = none from I.ok.hd hc) it a ha its.toArray) he ⟨hit, p⟩ hlt hne (by simp [hne, Ne.symm hae]) fun u' h' tk hP ho hst' hT hsz hk => ?_
    obtain ⟨hit', _⟩ := hst'
    have eu : u' = u := by
      have q : its.toArray[i]? = some u' := hP
      have q2 : its.toArray[i]? = some u := by simpa using hu
      rw [q] at q2
      exact Option.some.inj q2
    subst eu
    refine ⟨_, rfl, wpAny_letOwnedTupleGo_enum (s := { s with heap := h', toks := tk + 1 }) ho fun h'' he' sb => ?_⟩
    have hT2 : h''.get? s.heap.objs.size = some { cls := .type "tuple", data := .seq #[.int i tk, u'] } := (sb.2 _ (Nat.ne_of_gt hel)).trans hT
    have new : ObjOk X.prog X.w (upd H s.heap.objs.size (.tup [.int (i : Nat), x])) h'' s.heap.objs.size (.tup [.int (i : Nat), x]) :=
      ⟨by show 2 ≤ sizeLine; decide, [.int i tk, u'], .cons ⟨_, rfl⟩ (.cons ru .nil), ⟨_, hT2, rfl, _, rfl⟩⟩
    have I1 : Inv X pins σ (upd H s.heap.objs.size (.tup [.int (i : Nat), x])) { s with heap := h'', toks := tk + 1 } :=
      I.turnedNew (ch := [e, it]) (fun b ob hb q => (sb.2 b (fun z => hb (by simp [z]))).trans (hk b ob (fun z => hb (by simp [z])) (fun z => hb (by simp [z])) q)) hf (Nat.le_refl _) new
    refine ⟨.ref s.heap.objs.size, _, I1, rfl, ⟨_, x, rfl, I.hok.fresh (Nat.le_refl _), rfl, fun ys hy => by rw [I.tuple_inj hy hq]; exact hx⟩, ⟨⟨u', ?_⟩, hit'.at fun o q => (sb.2 it (Ne.symm hne)).trans q, hne⟩, fun b hb => ?_⟩
    · have e1 : ((i + 1 : Nat) : Int) = (i : Int) + 1 := by omega
      rw [e1]; exact he'
    · have hb' : b < s.heap.objs.size := by
        have e' : b = e ∨ b = it := by simpa using hb
        rcases e' with z | z
        · rw [z]; exact hel
        · rw [z]; exact hil
      rw [upd_ne (Nat.ne_of_lt hb')]
      exact (hf b hb).1
  done := by
    intro X hP hw hK hc i pins s σ H E I hf st hg
    subst hP hw hK
    obtain ⟨⟨old, he⟩, hit, hne⟩ := st
    obtain ⟨xs, hq, hx⟩ := hg
    obtain ⟨its, rv, p, hz⟩ := I.tuple hq
    obtain ⟨f0, f1, f2, f3, f4, f5⟩ := hf it (by simp)
    have hl := rv.length
    have hT : s.TypeIs (.ref e) "enumerate" := ⟨_, he, rfl⟩
    unfold pyNext
    refine wpAny_bind (wpAny_attempt (wpAny_callSpecial?_slot (name := Str.ofString "__next__") hT F.slot_enumerate_next
      (wpAny_call_entry F.slot_enumerate_next hT F.entry_enumerate_next ?_ (F.args_enumerate_next_1 _))))
    show wpAny _ _ (field (.ref e) 2 >>= _) _ _ _
    refine wpAny_bind (wpAny_field he rfl (x := .ref it) rfl ?_)
    refine wpAny_bind (wpAny_nextOf_tuple_end (show X.A.in1.in1.handled = none from I.ok.hd hc) hit p (by simp; omega) fun h' x he' hx' => ?_)
    obtain ⟨o, ho, hc'⟩ := hx'
    refine wpAny_bind (wpAny_isInstance (T := "StopIteration") (b := true) ⟨o, ho, hc'⟩ isSubtype_stop ?_)
    exact wpAny_pure ⟨rfl, I.turned (t' := s.toks) (fun b o hb q => he' b o hb q) f0 f1 f3 f4 f5⟩
  self := fun A i s Q E st h => let ⟨⟨_, he⟩, _⟩ := st; wpAny_pyIter_enum he h
def iEnumA (K : PySem.W.Frag) (ta : TA) : TI := fun σ H R => ta σ H fun vs H1 => ∃ a, vs = [.ref a] ∧ ((∃ xs, SqL K H1 a xs ∧ R (Ite K a) H1) ∨ ∃ xs, SqT K H1 a xs ∧ R (IteT K a) H1)
theorem pi_enumA {X : Cx} {e : Expr} {ta : TA} {p pos tpos : Pos} {elts : List Expr} {kk : Nat} (hg : Gl X "enumerate") (hm : X.mg "enumerate" = none) (ha : PA X [e] ta) (hs : starEach [e] X.env = [(false, eval e X.env)] := by rfl) :
    PI X (.Tuple elts kk tpos) (.Call (.Name "enumerate" p) [e] [] pos) (iEnumA X.K ta) := by
  refine ⟨fun pins s σ H R I h => ?_⟩
  refine Call_ (ld_blt I hg hm boot_enumerate (PyProof.Rows.callWith_type1 (thn (ha.run pos pins s σ H _ I h) fun us s1 ⟨vs, H1, I1, r1, q1⟩ => ?_) hs rfl))
  obtain ⟨a, ex, q⟩ := q1
  subst ex
  cases r1 with
  | cons r rr =>
    cases rr
    cases r
    rcases q with ⟨xs, hq, q⟩ | ⟨xs, hq, q⟩
    · obtain ⟨its, rv, p', hz⟩ := I1.list hq
      refine call_enumerate_list p'.isList fun h' he hit hsz hk => wpAny_pyIter_enum he ?_
      have I2 : Inv X pins σ H1 { s1 with heap := h' } := I1.kept (t' := s1.toks) hk
      refine ⟨s1.heap.objs.size + 1, [s1.heap.objs.size + 1, s1.heap.objs.size], _, _, H1, rfl, I2, turn_enum a (s1.heap.objs.size + 1) s1.heap.objs.size, ⟨⟨.none, he⟩, hit, Nat.succ_ne_self _⟩, fun b hb => ?_, q⟩
      have e' : b = s1.heap.objs.size + 1 ∨ b = s1.heap.objs.size := by simpa using hb
      have hle : s1.heap.objs.size ≤ b := by
        rcases e' with z | z
        · rw [z]; exact Nat.le_add_right _ _
        · rw [z]; exact Nat.le_refl _
      exact I1.fpOk hle (I1.hok.fresh hle)
    · obtain ⟨its, rv, p', hz⟩ := I1.tuple hq
      have hlt : a < s1.heap.objs.size := p'.lt
      refine call_enumB1 (begins_tuple a its.toArray) (show s1.heap.IsTuple a its.toArray from p') fun h' he hit hsz hk => wpAny_pyIter_enum he ?_
      have I2 : Inv X pins σ H1 { s1 with heap := h' } := I1.kept (t' := s1.toks) hk
      refine ⟨s1.heap.objs.size + 1, [s1.heap.objs.size + 1, s1.heap.objs.size], _, _, H1, rfl, I2, turn_enumT a (s1.heap.objs.size + 1) s1.heap.objs.size (Nat.ne_of_lt hlt) (Nat.ne_of_lt (Nat.lt_succ_of_lt hlt)), ⟨⟨.none, he⟩, ⟨_, hit, rfl, rfl⟩, Nat.succ_ne_self _⟩, fun b hb => ?_, q⟩
      have e' : b = s1.heap.objs.size + 1 ∨ b = s1.heap.objs.size := by simpa using hb
      have hle : s1.heap.objs.size ≤ b := by
        rcases e' with z | z
        · rw [z]; exact Nat.le_add_right _ _
        · rw [z]; exact Nat.le_refl _
      exact I1.fpOk hle (I1.hok.fresh hle)
section
variable {X : Cx} {W : WX} {K : PySem.W.Frag} {tg e : Expr} {ta : TA} {wa : DA}
theorem yld_eT {B : Hp} {ds : List D} {vs : List V} {a : Addr} (h : SqT K B a vs) (t : DtA K B vs ds) : Yld K (IteT K a) B (enumD ds) (fun _ => True) where
  go := fun i H cs F r s k hi => by
    rw [enumD_length] at hi
    obtain ⟨v, e, _⟩ := t.get (List.getElem?_eq_getElem hi)
    exact ⟨vs, v, same_t hid_sub (same_t s h), e⟩
  stop := fun i H cs F r s k hi => by
    rw [enumD_length] at hi
    exact ⟨vs, same_t hid_sub (same_t s h), by rw [t.length]; exact hi⟩
  yld := fun i H cs F x H' d r s k e y => by
    obtain ⟨T, w, rfl, hT, rfl, y⟩ := y
    obtain ⟨z, ez, rfl⟩ := enumD_get e
    obtain ⟨v, e2, q⟩ := t.get ez
    have e3 := y vs (same_t hid_sub (same_t s h))
    rw [e2] at e3
    cases e3
    exact enum_tup r hT (q.mono s)
theorem sim_enum (h : SimA K W ta wa) : SimI K W (iEnumA K ta) (diEnum wa) := fun ρ cs Φ Ψ σ H F R' hw R L k => h ρ cs _ _ σ H F _ hw R L fun ds cs1 vs H1 q R1 s1 t1 => by
  match ds, vs, t1, q with
  | [.tup ds], _, .cons (.tup (a := a) (xs := xs) sa ta) .nil, q => exact ⟨a, rfl, .inr ⟨xs, same_t hid_sub sa, k _ _ cs1 H1 _ q R1 s1 (yld_eT sa ta)⟩⟩
  | [.lst ds], _, .cons (.lst (a := a) (xs := xs) sa ta) .nil, q => exact ⟨a, rfl, .inl ⟨xs, SqL.of (hid_sub _ _ sa), k _ _ cs1 H1 _ q R1 s1 (yld_e fun H cs F r s _ => ⟨xs, SqL.of (hid_sub _ _ (s _ _ sa)), ta.mono s⟩)⟩⟩
  | [.rl ds], _, .cons (.rl (a := a) (xs := xs) sa ta) .nil, q => exact ⟨a, rfl, .inl ⟨xs, same_l hid_sub sa, k _ _ cs1 H1 _ q R1 s1 (yld_e fun H cs F r s _ => ⟨xs, same_l hid_sub (same_l s sa), ta.mono s⟩)⟩⟩
  | [.cell a], _, .cons (.cell _) .nil, q =>
    dsimp only at q
    split at q
    · rename_i ds e
      obtain ⟨vs, h1, ta⟩ := R1.r.c a _ e
      exact ⟨a, rfl, .inl ⟨vs, SqL.of h1, k _ _ cs1 H1 _ q R1 s1 (yld_e fun H cs F r s kp => by
        obtain ⟨us, h2, tb⟩ := r.c a _ kp
        exact ⟨us, SqL.of h2, tb⟩)⟩⟩
    · exact q.elim
theorem qi_enum {p pos tpos : Pos} {elts : List Expr} {kk : Nat} (hg : Gl X "enumerate") (hm : X.mg "enumerate" = none) (h : QA X W [e] ta wa) (hs : starEach [e] X.env = [(false, eval e X.env)] := by rfl) :
    QI X W (.Tuple elts kk tpos) (.Call (.Name "enumerate" p) [e] [] pos) (iEnumA X.K ta) (diEnum wa) := ⟨pi_enumA hg hm h.pe hs, sim_enum h.sim⟩
end

/-! ## comprehensions -/
def wipeD (ρ : EnvD) : List Nat → EnvD
  | [] => ρ
  | v :: vs => (wipeD ρ vs).set v none
theorem wipe_env {K : PySem.W.Frag} {B : Hp} {σ : L2.St} {ρ : EnvD} (h : EnvR K B σ ρ) : ∀ vs : List Nat, EnvR K B (wipe σ vs) (wipeD ρ vs)
  | [] => h
  | v :: vs => EnvR.unset (wipe_env h vs) v none
theorem wipe_get {σ : L2.St} {i : Nat} : ∀ {vs : List Nat}, (wipe σ vs)[i]? = if i ∈ vs then (if i < σ.length then some none else none) else σ[i]?
  | [] => by simp [wipe]
  | v :: vs => by
    unfold wipe
    by_cases e : v = i
    · subst e
      by_cases hl : v < σ.length
      · rw [List.getElem?_set_self (by rw [wipe_length]; exact hl)]; simp [hl]
      · rw [List.getElem?_eq_none (by rw [List.length_set, wipe_length]; omega)]; simp [hl]
    · rw [List.getElem?_set_ne e, wipe_get]
      have : i ≠ v := Ne.symm e
      simp [this]
theorem wipe_set {σ : L2.St} {i : Nat} {vs : List Nat} {x : Option V} (h : i ∈ vs) : wipe (σ.set i x) vs = wipe σ vs := by
  apply List.ext_getElem?
  intro j
  rw [wipe_get, wipe_get, List.length_set]
  by_cases hj : j ∈ vs
  · rw [if_pos hj, if_pos hj]
  · rw [if_neg hj, if_neg hj]
    exact List.getElem?_set_ne (fun e => hj (by rw [← e]; exact h))
theorem wipe_wipe {σ : L2.St} {vs : List Nat} : wipe (wipe σ vs) vs = wipe σ vs := by
  apply List.ext_getElem?
  intro j
  rw [wipe_get, wipe_length]
  by_cases hj : j ∈ vs
  · rw [if_pos hj, wipe_get, if_pos hj]
  · rw [if_neg hj]
/-- a target that touches the slots vs alone -/
def TgIn (vs : List Nat) (g : TG) : Prop := ∀ x σ H (Q : L2.St → Hp → Prop) σ0, wipe σ vs = σ0 → g x σ H Q → g x σ H (fun σ2 H2 => wipe σ2 vs = σ0 ∧ Q σ2 H2)
def TgsIn (vs : List Nat) (g : TGs) : Prop := ∀ xs σ H (Q : L2.St → Hp → Prop) σ0, wipe σ vs = σ0 → g xs σ H Q → g xs σ H (fun σ2 H2 => wipe σ2 vs = σ0 ∧ Q σ2 H2)
theorem ti_name {vs : List Nat} {i : Nat} (h : i ∈ vs) : TgIn vs (gName i) := fun x σ H Q σ0 e q => ⟨(wipe_set h).trans e, q⟩
theorem ti_nil {vs : List Nat} : TgsIn vs gNil := fun xs σ H Q σ0 e q => ⟨q.1, e, q.2⟩
/-- monotone targets -/
def TgMo (g : TG) : Prop := ∀ x σ H (Q Q' : L2.St → Hp → Prop), (∀ σ H, Q σ H → Q' σ H) → g x σ H Q → g x σ H Q'
def TgsMo (g : TGs) : Prop := ∀ x σ H (Q Q' : L2.St → Hp → Prop), (∀ σ H, Q σ H → Q' σ H) → g x σ H Q → g x σ H Q'
structure TOk (vs : List Nat) (g : TG) : Prop where
  i : TgIn vs g
  m : TgMo g
structure TsOk (vs : List Nat) (g : TGs) : Prop where
  i : TgsIn vs g
  m : TgsMo g
theorem tok_name {vs : List Nat} {i : Nat} (h : i ∈ vs) : TOk vs (gName i) := ⟨ti_name h, fun _ _ _ _ _ k q => k _ _ q⟩
theorem tok_nil {vs : List Nat} : TsOk vs gNil := ⟨ti_nil, fun _ _ _ _ _ k q => ⟨q.1, k _ _ q.2⟩⟩
theorem tok_cons {vs : List Nat} {g : TG} {gs : TGs} (h : TOk vs g) (r : TsOk vs gs) : TsOk vs (gCons g gs) :=
  ⟨fun xs σ H Q σ0 e ⟨v, rr, e1, q⟩ => ⟨v, rr, e1, h.m _ _ _ _ _ (fun σ1 H1 ⟨e2, q2⟩ => r.i rr σ1 H1 Q σ0 e2 q2) (h.i v σ H _ σ0 e q)⟩,
    fun xs σ H Q Q' k ⟨v, rr, e1, q⟩ => ⟨v, rr, e1, h.m _ _ _ _ _ (fun σ1 H1 q2 => r.m rr σ1 H1 Q Q' k q2) q⟩⟩
theorem tok_seq {K : PySem.W.Frag} {n : Nat} {vs : List Nat} {gs : TGs} (r : TsOk vs gs) : TOk vs (gSeq K n gs) :=
  ⟨fun x σ H Q σ0 e q => q.elim (fun ⟨a, xs, e1, h1, h2, q⟩ => .inl ⟨a, xs, e1, h1, h2, r.i xs σ H Q σ0 e q⟩) fun ⟨a, xs, e1, h1, h2, q⟩ => .inr ⟨a, xs, e1, h1, h2, r.i xs σ H Q σ0 e q⟩,
    fun x σ H Q Q' k q => q.elim (fun ⟨a, xs, e1, h1, h2, q⟩ => .inl ⟨a, xs, e1, h1, h2, r.m xs σ H Q Q' k q⟩) fun ⟨a, xs, e1, h1, h2, q⟩ => .inr ⟨a, xs, e1, h1, h2, r.m xs σ H Q Q' k q⟩⟩

def noEx : EK := fun _ _ _ => False
def dYes : DT := fun _ cs Φ _ => Φ true cs
/-- [e for g in .. if t]: I by the turn, what is made so far -/
def dLc (m : NewM) (wi : DI) (wg : DG) (wt : DT) (we : DE) (vs : List Nat) : DE := fun ρ cs Φ Ψ => wi ρ cs (fun items keep cs1 => items.length ≤ 16000000 ∧ ∃ I : Nat → List D → Cs → Prop, I 0 [] cs1 ∧ ∀ i acc cs2, I i acc cs2 →
  keep cs2 ∧ (∀ x, items[i]? = some x → wg x (wipeD ρ vs) cs2 (fun ρ2 cs3 => wt ρ2 cs3 (fun b cs4 => if b = true then we ρ2 cs4 (fun y cs5 => I (i + 1) (acc ++ [y]) cs5) noEx else I (i + 1) acc cs4) noEx) noEx) ∧ (i = items.length → m acc cs2 Φ)) Ψ
abbrev W0 : WX := fun _ _ _ _ => False
theorem el0 {K : PySem.W.Frag} {H : Hp} {cs : Cs} {F : Hp} : EL K W0 noEx H cs F := fun _ _ _ _ _ _ _ h _ _ _ _ => h.elim
section
variable {K : PySem.W.Frag} {W : WX} {m : NewM} {wi : TI} {w : DI} {g : TG} {wg : DG} {tt : TT} {wt : DT} {te : TE} {we : DE} {vs : List Nat}
theorem lc_sim (hm : NewOk m) (hi : SimI K W wi w) (hg : SimG K W0 g wg) (ho : TOk vs g) (ht : SimT K W0 tt wt) (he : SimE K W0 te we) : SimE K W (tLc wi g tt te vs) (dLc m w wg wt we vs) := fun ρ cs Φ Ψ σ H F Q hw R L k => hi ρ cs _ _ σ H F _ hw R L fun items keep cs1 H1 J q R1 s1 Y => by
  obtain ⟨hlen, I, h0, hs⟩ := q
  intro A hA
  have hF := (R1.r.fresh hA).2
  have hc := (R1.r.fresh hA).1
  obtain ⟨r0, s0⟩ := R1.r.newc (o := .lst []) (c := .lst []) hA ⟨[], upd_same, .nil⟩
  have base0 : Same (hid H1 cs1 F) (hid (upd H1 A (.lst [])) cs1 (upd F A (.lst []))) := by
    have := s0.base
    rw [hid_frame (u := .lst []) hc] at this
    exact this
  refine ⟨fun i mm H' => mm = items.length - i ∧ i ≤ items.length ∧ ∃ acc av cs', I i acc cs' ∧ acc.length ≤ i ∧ Rl K H' cs' (upd F A (.lst av)) ∧ DtA K (hid H' cs' (upd F A (.lst av))) av acc ∧ Same (hid H1 cs1 F) (hid H' cs' (upd F A (.lst av))),
    ⟨_, rfl, Nat.zero_le _, [], [], cs1, h0, Nat.le_refl _, r0.toFrame hc upd_same, .nil, base0⟩, ?_⟩
  rintro i mm H2 ⟨rfl, hi2, acc, av, cs2, h2, hl2, r2, t2, b2⟩
  obtain ⟨kp, turn, done⟩ := hs i acc cs2 h2
  by_cases hlt : i < items.length
  · refine .inr ⟨Y.go i H2 cs2 _ r2 b2 kp hlt, fun H' => i + 1 ≤ items.length ∧ ∃ acc av cs', I (i + 1) acc cs' ∧ acc.length ≤ i + 1 ∧ Rl K H' cs' (upd F A (.lst av)) ∧ DtA K (hid H' cs' (upd F A (.lst av))) av acc ∧ Same (hid H1 cs1 F) (hid H' cs' (upd F A (.lst av))), fun H' ⟨z1, z2⟩ => ⟨_, by omega, rfl, z1, z2⟩, fun x H3 y => ?_⟩
    have ex := List.getElem?_eq_getElem hlt
    obtain ⟨r3, s3, t3⟩ := Y.yld i H2 cs2 _ x H3 _ r2 b2 kp ex y
    have b3 := b2.trans s3.base
    have E3 : EnvR K (hid H3 cs2 (upd F A (.lst av))) (wipe σ vs) (wipeD ρ vs) := EnvR.mono b3 (wipe_env R1.e vs)
    refine ho.m _ _ _ _ _ (fun σ4 H4 ⟨ew, q4⟩ => ⟨ew, q4⟩) (ho.i x (wipe σ vs) H3 _ (wipe σ vs) wipe_wipe ?_)
    refine hg _ _ cs2 _ noEx (wipe σ vs) H3 (upd F A (.lst av)) x _ (turn _ ex) ⟨r3, E3⟩ el0 t3 fun ρ4 cs4 σ4 H4 q4 R4 s4 => ?_
    refine ht ρ4 cs4 _ noEx σ4 H4 _ _ q4 R4 el0 fun b cs5 H5 q5 R5 s5 => ?_
    have b5 := b3.trans (s4.trans s5).base
    have t5 : DtA K (hid H5 cs5 (upd F A (.lst av))) av acc := t2.mono ((s3.trans (s4.trans s5)).base)
    cases b with
    | true =>
      refine he ρ4 cs5 _ noEx σ4 H5 _ _ q5 R5 el0 fun d cs6 v H6 q6 R6 s6 t6 => ?_
      have hA6 : H6 A = some (.lst av) := R6.r.frame_same
      obtain ⟨r7, hc7⟩ := R6.r.ofFrame (c := .lst acc) hF ⟨av, hA6, t5.mono s6.base⟩
      have tn : DtA K (hid H6 (setc cs6 A (.lst acc)) F) (av ++ [v]) (acc ++ [d]) := by
        rw [hid_frame (u := .lst av) hc7]
        exact (t5.mono s6.base).append (.cons t6 .nil)
      obtain ⟨r8, s8⟩ := r7.write (o := .lst (av ++ [v])) (c' := .lst (acc ++ [d])) setc_same ⟨_, upd_same, tn⟩
      rw [setc_setc] at r8 s8
      have b8 : Same (hid H6 cs6 (upd F A (.lst av))) (hid (upd H6 A (.lst (av ++ [v]))) cs6 (upd F A (.lst (av ++ [v])))) := by
        have := s8.base
        rw [hid_frame (u := .lst av) hc7, hid_frame (u := .lst (av ++ [v])) hc7] at this
        exact this
      have tn' : DtA K (hid (upd H6 A (.lst (av ++ [v]))) cs6 (upd F A (.lst (av ++ [v])))) (av ++ [v]) (acc ++ [d]) := ((t5.mono s6.base).append (.cons t6 .nil)).mono b8
      refine ⟨av, hA6, by rw [t5.length]; exact szl (by omega), hlt, acc ++ [d], av ++ [v], cs6, q6, by rw [List.length_append]; show acc.length + 1 ≤ i + 1; omega, r8.toFrame hc7 upd_same, tn', (b5.trans s6.base).trans b8⟩
    | false => exact ⟨hlt, acc, av, cs5, q5, by omega, R5.r, t5, b5⟩
  · have e : i = items.length := by omega
    refine .inl ⟨Y.stop i H2 cs2 _ r2 b2 kp (by omega), ?_⟩
    have hA2 : H2 A = some (.lst av) := r2.frame_same
    obtain ⟨r3, hc3⟩ := r2.ofFrame (c := .lst acc) hF ⟨av, hA2, t2⟩
    have b3 : Same (hid H1 cs1 F) (hid H2 (setc cs2 A (.lst acc)) F) := by
      rw [hid_frame (u := .lst av) hc3]; exact b2
    obtain ⟨d, cs', q, r4, s4, t4⟩ := hm K H2 cs2 F acc A Φ (done e) hc3 r3
    have S : Stp H cs H2 cs' F := s1.trans ⟨b3.trans s4.base⟩
    exact k d cs' _ H2 q (R.step r4 S) S t4
section
variable {X : Cx} {elt tg iter : Expr} {ifs : List Expr} {scope : Scope} {own : List (Str × Nat)} {pos : Pos}
theorem qe_lc (hm : NewOk m) (hc : X.calm = true) (hN : X.N.Nodup) (hi : QI X W tg iter wi w) (ok : BlkOk X.N X.env.scope scope own)
    (hg : ∀ (s : Shared) (H : Hp) (C : Addr) (cl : List (Str × Addr)) (fp : List Addr), QG (X.blk s H scope (compEnvC scope cl C X.env) fp) W0 tg g wg) (ho : TOk (own.map (·.2)) g)
    (ht : ∀ (s : Shared) (H : Hp) (C : Addr) (cl : List (Str × Addr)) (fp : List Addr), PTs (X.blk s H scope (compEnvC scope cl C X.env) fp) ifs tt) (ht2 : SimT X.K W0 tt wt)
    (he : ∀ (s : Shared) (H : Hp) (C : Addr) (cl : List (Str × Addr)) (fp : List Addr), QE (X.blk s H scope (compEnvC scope cl C X.env) fp) W0 elt te we) (hs : ∀ x, foldedSetIterable iter X.env x = pure x := by intro _; rfl) :
    QE X W (.ListComp elt [⟨tg, iter, ifs, 0⟩] scope pos) (tLc wi g tt te (own.map (·.2))) (dLc m w wg wt we (own.map (·.2))) :=
  ⟨pe_lc hc hN hi.pe ok (fun s H C cl fp => (hg s H C cl fp).pe) ht (fun s H C cl fp => (he s H C cl fp).pe) hs, lc_sim hm hi.sim (hg X.s_0 X.H_0 0 [] []).sim ho ht2 (he X.s_0 X.H_0 0 [] []).sim⟩
/-- name = [..] on one line -/
theorem qs_setLc {i : Nat} {y : Str} {py spos : Pos} (hm : NewOk m) (hc : X.calm = true) (hN : X.N.Nodup) (hy : X.N[i]? = some y) (hyl : X.env.scope.names.lookup y = some .local)
    (hsw : swapsWith (.ListComp elt [⟨tg, iter, ifs, 0⟩] scope pos) (some (.Name y py)) spos.line X.env = pure true) (hi : QI X W tg iter wi w) (ok : BlkOk X.N X.env.scope scope own)
    (hg : ∀ (s : Shared) (H : Hp) (C : Addr) (cl : List (Str × Addr)) (fp : List Addr), QG (X.blk s H scope (compEnvC scope cl C X.env) fp) W0 tg g wg) (ho : TOk (own.map (·.2)) g)
    (ht : ∀ (s : Shared) (H : Hp) (C : Addr) (cl : List (Str × Addr)) (fp : List Addr), PTs (X.blk s H scope (compEnvC scope cl C X.env) fp) ifs tt) (ht2 : SimT X.K W0 tt wt)
    (he : ∀ (s : Shared) (H : Hp) (C : Addr) (cl : List (Str × Addr)) (fp : List Addr), QE (X.blk s H scope (compEnvC scope cl C X.env) fp) W0 elt te we) (hs : ∀ x, foldedSetIterable iter X.env x = pure x := by intro _; rfl) :
    QS X W (.Assign [.Name y py] (.ListComp elt [⟨tg, iter, ifs, 0⟩] scope pos) spos) (tAsg (tLc wi g tt te (own.map (·.2))) (gName i)) (dAsg (dLc m w wg wt we (own.map (·.2))) (dgName i)) :=
  ⟨ps_setLc hc hN hy hyl hsw hi.pe ok (fun s H C cl fp => (hg s H C cl fp).pe) ht (fun s H C cl fp => (he s H C cl fp).pe) hs, asg_sim (lc_sim hm hi.sim (hg X.s_0 X.H_0 0 [] []).sim ho ht2 (he X.s_0 X.H_0 0 [] []).sim) sim_gname⟩
theorem sim_yes {K : PySem.W.Frag} : SimT K W0 tYes dYes := fun ρ cs Φ Ψ σ H F Q h R L k => k true cs H h R .refl
end
end
end DL
namespace DL
open PySem PySem.Spec PyProof.Rows L2

/-! ## built-in functions -/
abbrev DC := List D → Cs → (D → Cs → Prop) → Prop
def SimC (K : PySem.W.Frag) (r : List V → Hp → VK → Prop) (w : DC) : Prop := ∀ vs ds H cs F Φ Q, w ds cs Φ → Rl K H cs F → DtA K (hid H cs F) vs ds →
  (∀ z cs' v H', Φ z cs' → Rl K H' cs' F → Stp H cs H' cs' F → Dt K (hid H' cs' F) v z → Q v H') → r vs H Q
def dCB (w : DC) (wa : DA) : DE := fun ρ cs Φ Ψ => wa ρ cs (fun ds cs1 => w ds cs1 Φ) Ψ
section
variable {X : Cx} {W : WX} {K : PySem.W.Frag} {x : Str} {p pos : Pos} {e : Expr} {es : List Expr} {ta : TA} {wa : DA} {id T : String} {r : List V → Hp → VK → Prop} {w : DC}
theorem cb_sim (hs : SimC K r w) (ha : SimA K W ta wa) : SimE K W (tCB r ta) (dCB w wa) := fun ρ cs Φ Ψ σ H F Q h R L k => ha ρ cs _ Ψ σ H F _ h R L fun ds cs1 vs H1 q R1 s1 t1 =>
  hs vs ds H1 cs1 F Φ Q q R1.r t1 fun z cs2 v H2 q2 r2 s2 t2 => k z cs2 v H2 q2 (R1.step r2 s2) (s1.trans s2) t2
theorem qe_callB (hc : CallR X (.builtin id) r) (hs : SimC X.K r w) (hg : Gl X x) (hm : X.mg x = none) (hv : bootBuiltins x = some (.builtin id)) (ha : QA X W (e :: es) ta wa) (hn : x ≠ "__name__" := by decide) (hdb : (x == ("__debug__" : Str)) = false := by decide)
    (he : starEach (e :: es) X.env = (false, eval e X.env) :: starEach es X.env := by rfl) (hpl : (backTo pos (starEach es X.env)).any (·.1) = false := by rfl) : QE X W (.Call (.Name x p) (e :: es) [] pos) (tCB r ta) (dCB w wa) :=
  ⟨pe_callB hc hg hm hv ha.pe hn hdb he hpl, cb_sim hs ha.sim⟩
theorem qe_callTy (hc : CallR X (.type T) r) (hs : SimC X.K r w) (hg : Gl X x) (hm : X.mg x = none) (hv : bootBuiltins x = some (.type T)) (ha : QA X W (e :: es) ta wa) (hn : x ≠ "__name__" := by decide) (hdb : (x == ("__debug__" : Str)) = false := by decide)
    (he : starEach (e :: es) X.env = (false, eval e X.env) :: starEach es X.env := by rfl) (hpl : (backTo pos (starEach es X.env)).any (·.1) = false := by rfl) : QE X W (.Call (.Name x p) (e :: es) [] pos) (tCB r ta) (dCB w wa) :=
  ⟨pe_callTy hc hg hm hv ha.pe hn hdb he hpl, cb_sim hs ha.sim⟩
/-- len -/
def wLen : DC := fun ds cs Φ => match ds with
  | [.tup ds] => Φ (.int ds.length) cs
  | [.lst ds] => Φ (.int ds.length) cs
  | [.rl ds] => Φ (.int ds.length) cs
  | [.str z] => z.length ≤ 16777216 ∧ Φ (.int z.length) cs
  | [.cell a] => match cs a with
    | some (.lst ds) => Φ (.int ds.length) cs
    | some (.dict kvs) => Φ (.int kvs.length) cs
    | _ => False
  | _ => False
def rLenD : List V → Hp → VK → Prop := fun xs H Q => ∃ a kvs, xs = [.ref a] ∧ H a = some (.dK kvs) ∧ Q (.int kvs.length) H
def rLenAll (K : PySem.W.Frag) : List V → Hp → VK → Prop := fun xs H Q => (∃ x n, xs = [x] ∧ LenV K x H n ∧ Q (.int n) H) ∨ rLenD xs H Q
theorem call_lenD2 : CallR X (.builtin "len") rLenD := by
  intro pins s σ H xs us Q I r h
  obtain ⟨a, kvs, rfl, e, q⟩ := h
  have := Vals.ref1 r
  subst this
  exact d_len I (.inl e) fun t s' I' => ⟨.int kvs.length, H, I', ⟨t, rfl⟩, q⟩
theorem call_lenAll : CallR X (.builtin "len") (rLenAll X.K) := call_len.or call_lenD2
theorem simLen : SimC K (rLenAll K) wLen := fun vs ds H cs F Φ Q h r t k => by
  have seq : ∀ {v : V} {d : D} {ds : List D}, Dt K (hid H cs F) v d → sq cs d = some ds → Φ (.int ds.length) cs → rLenAll K [v] H Q := fun {v d ds} t e q => by
    obtain ⟨a, us, rfl, sa, ta⟩ := sq_ok r t e
    refine .inl ⟨_, us.length, rfl, ?_, ?_⟩
    · rcases sa with sa | sa
      · exact .inl ⟨us, sa, rfl⟩
      · exact .inr ⟨us, sa, rfl⟩
    · rw [ta.length]; exact k _ cs _ H q r .refl (.int _)
  match ds, vs, t, h with
  | [.tup ds], _, .cons t .nil, h => exact seq t rfl h
  | [.lst ds], _, .cons t .nil, h => exact seq t rfl h
  | [.rl ds], _, .cons t .nil, h => exact seq t rfl h
  | [.str z], _, .cons (.str _) .nil, h => exact .inl ⟨_, _, rfl, ⟨sz h.1, rfl⟩, k _ cs _ H h.2 r .refl (.int _)⟩
  | [.cell a], _, .cons t .nil, h =>
    unfold wLen at h
    dsimp only at h
    split at h
    · rename_i ds e
      exact seq t (sq_cell e) h
    · rename_i kvs e
      cases t
      obtain ⟨ws, hw, rel⟩ := r.c a _ e
      exact .inr ⟨a, ws, rfl, hw, by rw [rel.length]; exact k _ cs _ H h r .refl (.int _)⟩
    · exact h.elim
/-- int(i), int(b) -/
def wInt : DC := fun ds cs Φ => match ds with
  | [.int i] => Φ (.int i) cs
  | [.bl b] => Φ (.int (if b then 1 else 0)) cs
  | _ => False
theorem simInt : SimC K (fun xs H Q => (∃ i, xs = [.int i] ∧ Q (.int i) H) ∨ ∃ k, xs = [.bl k] ∧ Q (.int (if k then 1 else 0)) H) wInt := fun vs ds H cs F Φ Q h r t k => by
  match ds, vs, t, h with
  | [.int i], _, .cons (.int _) .nil, h => exact .inl ⟨i, rfl, k _ cs _ H h r .refl (.int _)⟩
  | [.bl b], _, .cons (.bl _) .nil, h => exact .inr ⟨b, rfl, k _ cs _ H h r .refl (.int _)⟩
def wI2 (g : Int → Int → Int) : DC := fun ds cs Φ => match ds with
  | [.int i, .int j] => Φ (.int (g i j)) cs
  | _ => False
def wMax2 : DC := wI2 fun i j => if j > i then j else i
def wMin2 : DC := wI2 fun i j => if j < i then j else i
theorem simI2 {g : Int → Int → Int} : SimC K (fun xs H Q => ∃ i j, xs = [.int i, .int j] ∧ Q (.int (g i j)) H) (wI2 g) := fun vs ds H cs F Φ Q h r t k => by
  match ds, vs, t, h with
  | [.int i, .int j], _, .cons (.int _) (.cons (.int _) .nil), h => exact ⟨i, j, rfl, k _ cs _ H h r .refl (.int _)⟩
/-- the items of a list alone -/
def lq (cs : Cs) : D → Option (List D)
  | .lst ds => some ds
  | .rl ds => some ds
  | .cell a => match cs a with
    | some (.lst ds) => some ds
    | _ => none
  | _ => none
theorem lq_ok {H : Hp} {cs : Cs} {F : Hp} {v : V} {d : D} {ds : List D} (r : Rl K H cs F) (h : Dt K (hid H cs F) v d) (e : lq cs d = some ds) : ∃ a vs, v = .ref a ∧ SqL K H a vs ∧ DtA K (hid H cs F) vs ds := by
  cases h with
  | lst h t => cases e; exact ⟨_, _, rfl, SqL.of (hid_sub _ _ h), t⟩
  | rl h t => cases e; exact ⟨_, _, rfl, same_l hid_sub h, t⟩
  | cell a =>
    unfold lq at e
    dsimp only at e
    split at e
    · rename_i ds' hc
      cases e
      obtain ⟨vs, h1, h2⟩ := r.c a _ hc
      exact ⟨a, vs, rfl, SqL.of h1, h2⟩
    · cases e
  | _ => cases e
theorem lq_cell {cs : Cs} {a : Addr} {ds : List D} (e : cs a = some (.lst ds)) : lq cs (.cell a) = some ds := by
  unfold lq; dsimp only; rw [e]
/-- sum of a list of ints -/
def wSum : DC := fun ds cs Φ => match ds with
  | [d] => ∃ (xs : List D) (ns : List Int), lq cs d = some xs ∧ xs = ns.map D.int ∧ Φ (.int ns.sum) cs
  | _ => False
theorem simSum : SimC K (rSum K) wSum := fun vs ds H cs F Φ Q h r t k => by
  match ds, vs, t, h with
  | [d], _, .cons t .nil, h =>
    obtain ⟨xs, ns, e1, e2, q⟩ := h
    obtain ⟨a, us, rfl, sa, ta⟩ := lq_ok r t e1
    rw [e2] at ta
    have e := DtA.of_ints ta
    subst e
    exact ⟨a, ns, rfl, sa, k _ cs _ H q r .refl (.int _)⟩
def wAll (f : List Bool → Bool) : DC := fun ds cs Φ => match ds with
  | [d] => ∃ (xs : List D) (ns : List Bool), lq cs d = some xs ∧ xs = ns.map D.bl ∧ Φ (.bl (f ns)) cs
  | _ => False
theorem simAll : SimC K (rAll K) (wAll fun b => b.all _root_.id) := fun vs ds H cs F Φ Q h r t k => by
  match ds, vs, t, h with
  | [d], _, .cons t .nil, h =>
    obtain ⟨xs, ns, e1, e2, q⟩ := h
    obtain ⟨a, us, rfl, sa, ta⟩ := lq_ok r t e1
    rw [e2] at ta
    have e := DtA.of_bools ta
    subst e
    exact ⟨a, ns, rfl, sa, k _ cs _ H q r .refl (.bl _)⟩
theorem simAny : SimC K (rAny K) (wAll fun b => b.any _root_.id) := fun vs ds H cs F Φ Q h r t k => by
  match ds, vs, t, h with
  | [d], _, .cons t .nil, h =>
    obtain ⟨xs, ns, e1, e2, q⟩ := h
    obtain ⟨a, us, rfl, sa, ta⟩ := lq_ok r t e1
    rw [e2] at ta
    have e := DtA.of_bools ta
    subst e
    exact ⟨a, ns, rfl, sa, k _ cs _ H q r .refl (.bl _)⟩
/-- max, min of a list of ints -/
def wMaxL (le : Int → Int → Prop) : DC := fun ds cs Φ => match ds with
  | [d] => ∃ (xs : List D) (ns : List Int), lq cs d = some xs ∧ xs = ns.map D.int ∧ 0 < ns.length ∧ ∀ m, m ∈ ns → (∀ y, y ∈ ns → le y m) → Φ (.int m) cs
  | _ => False
theorem simMaxL : SimC K (rMax K) (wMaxL fun y m => y ≤ m) := fun vs ds H cs F Φ Q h r t k => by
  match ds, vs, t, h with
  | [d], _, .cons t .nil, h =>
    obtain ⟨xs, ns, e1, e2, hl, q⟩ := h
    obtain ⟨a, us, rfl, sa, ta⟩ := lq_ok r t e1
    rw [e2] at ta
    have e := DtA.of_ints ta
    subst e
    exact ⟨a, ns, rfl, sa, hl, fun m h1 h2 => k _ cs _ H (q m h1 h2) r .refl (.int _)⟩
theorem simMinL : SimC K (rMin K) (wMaxL fun y m => m ≤ y) := fun vs ds H cs F Φ Q h r t k => by
  match ds, vs, t, h with
  | [d], _, .cons t .nil, h =>
    obtain ⟨xs, ns, e1, e2, hl, q⟩ := h
    obtain ⟨a, us, rfl, sa, ta⟩ := lq_ok r t e1
    rw [e2] at ta
    have e := DtA.of_ints ta
    subst e
    exact ⟨a, ns, rfl, sa, hl, fun m h1 h2 => k _ cs _ H (q m h1 h2) r .refl (.int _)⟩
/-- sorted of a list of ints -/
def wSortI (m : NewM) : DC := fun ds cs Φ => match ds with
  | [d] => ∃ (xs : List D) (ns : List Int), lq cs d = some xs ∧ xs = ns.map D.int ∧ ∀ ns' : List Int, ns'.Perm ns → ns'.Pairwise (· ≤ ·) → m (ns'.map D.int) cs Φ
  | _ => False
theorem simSortI {m : NewM} (hm : NewOk m) : SimC K (rSortedI K) (wSortI m) := fun vs ds H cs F Φ Q h r t k => by
  match ds, vs, t, h with
  | [d], _, .cons t .nil, h =>
    obtain ⟨xs, ns, e1, e2, q⟩ := h
    obtain ⟨a, us, rfl, sa, ta⟩ := lq_ok r t e1
    rw [e2] at ta
    have e := DtA.of_ints ta
    subst e
    refine ⟨a, ns, rfl, sa, fun ns' p h1 h2 hp => ?_⟩
    obtain ⟨z, cs', hz, r1, s1, q1⟩ := hm.new K H cs F _ _ p Φ (q ns' h1 h2) r (DtA.map_int ns') hp
    exact k z cs' _ _ hz r1 s1 q1
/-- tuple(list), tuple(tuple) -/
def wTupleOf : DC := fun ds cs Φ => match ds with
  | [.tup ds] => Φ (.tup ds) cs
  | [d] => ∃ xs, lq cs d = some xs ∧ Φ (.tup xs) cs
  | _ => False
theorem simTupleOf : SimC K (fun xs H Q => ∃ p ys, xs = [.ref p] ∧ ((SqL K H p ys ∧ ∀ l, H l = none → Q (.ref l) (upd H l (.tup ys))) ∨ (SqT K H p ys ∧ Q (.ref p) H))) wTupleOf := fun vs ds H cs F Φ Q h r t k => by
  have other : ∀ {v : V} {d : D}, Dt K (hid H cs F) v d → (∃ xs, lq cs d = some xs ∧ Φ (.tup xs) cs) → ∃ p ys, [v] = [.ref p] ∧ ((SqL K H p ys ∧ ∀ l, H l = none → Q (.ref l) (upd H l (.tup ys))) ∨ (SqT K H p ys ∧ Q (.ref p) H)) := fun {v d} t ⟨xs, e, q⟩ => by
    obtain ⟨a, us, rfl, sa, ta⟩ := lq_ok r t e
    refine ⟨a, us, rfl, .inl ⟨sa, fun l hl => ?_⟩⟩
    obtain ⟨r1, s1, q1⟩ := r.tup ta hl
    exact k _ cs _ _ q r1 s1 q1
  match ds, vs, t, h with
  | [.tup ds], _, .cons (.tup (a := a) (xs := xs) sa ta) .nil, h => exact ⟨a, xs, rfl, .inr ⟨same_t hid_sub sa, k _ cs _ H h r .refl (.tup sa ta)⟩⟩
  | [.non], _, .cons t .nil, h => exact other t h
  | [.bl _], _, .cons t .nil, h => exact other t h
  | [.int _], _, .cons t .nil, h => exact other t h
  | [.str _], _, .cons t .nil, h => exact other t h
  | [.lst _], _, .cons t .nil, h => exact other t h
  | [.rl _], _, .cons t .nil, h => exact other t h
  | [.cell _], _, .cons t .nil, h => exact other t h
  | [.val _], _, .cons t .nil, h => exact other t h
  | [.exn _ _ _], _, .cons t .nil, h => exact other t h
  | [.pt _], _, .cons t .nil, h => exact other t h
/-- str(i) -/
def wStrI : DC := fun ds cs Φ => match ds with
  | [.int i] => i.natAbs.log2 < 1920 ∧ Φ (.str (toString i)) cs
  | _ => False
theorem simStrI : SimC K (fun xs H Q => ∃ i, xs = [.int i] ∧ i.natAbs.log2 < 1920 ∧ Q (.str (toString i)) H) wStrI := fun vs ds H cs F Φ Q h r t k => by
  match ds, vs, t, h with
  | [.int i], _, .cons (.int _) .nil, h => exact ⟨i, rfl, h.1, k _ cs _ H h.2 r .refl (.str _)⟩
end

/-! ## methods of lists and dicts -/
abbrev DM := D → List D → Cs → (D → Cs → Prop) → Prop
def SimM (K : PySem.W.Frag) (r : V → List V → Hp → VK → Prop) (w : DM) : Prop := ∀ x d vs ds H cs F Φ Q, w d ds cs Φ → Rl K H cs F → Dt K (hid H cs F) x d → DtA K (hid H cs F) vs ds →
  (∀ z cs' v H', Φ z cs' → Rl K H' cs' F → Stp H cs H' cs' F → Dt K (hid H' cs' F) v z → Q v H') → r x vs H Q
/-- the built-in type of a receiver -/
def dty (T : String) (cs : Cs) : D → Prop
  | .str _ => T = "str"
  | .lst _ => T = "list"
  | .rl _ => T = "list"
  | .cell a => match cs a with
    | some (.lst _) => T = "list"
    | some (.dict _) => T = "dict"
    | _ => False
  | _ => False
def dBM (T : String) (w : DM) (wo : DE) (wa : DA) : DE := fun ρ cs Φ Ψ => wo ρ cs (fun d cs1 => dty T cs1 d ∧ wa ρ cs1 (fun ds cs2 => w d ds cs2 Φ) Ψ) Ψ
def dBM0 (T : String) (w : DM) (wo : DE) : DE := fun ρ cs Φ Ψ => wo ρ cs (fun d cs1 => dty T cs1 d ∧ w d [] cs1 Φ) Ψ
section
variable {X : Cx} {W : WX} {K : PySem.W.Frag} {o e : Expr} {es : List Expr} {to : TE} {ta : TA} {wo : DE} {wa : DA} {name : Str} {apos cpos : Pos} {T id : String} {r : V → List V → Hp → VK → Prop} {w : DM}
theorem dty_ok {H : Hp} {cs : Cs} {F : Hp} {v : V} {d : D} (r : Rl K H cs F) (h : Dt K (hid H cs F) v d) (e : dty T cs d) : tyV K T v H := by
  cases h with
  | str z => exact e
  | lst h t => exact .inl ⟨e, _, SqL.of (hid_sub _ _ h)⟩
  | rl h t => exact .inl ⟨e, _, same_l hid_sub h⟩
  | cell a =>
    unfold dty at e
    dsimp only at e
    split at e
    · rename_i ds hc
      obtain ⟨vs, h1, _⟩ := r.c a _ hc
      exact .inl ⟨e, vs, SqL.of h1⟩
    · rename_i ds hc
      obtain ⟨vs, h1, _⟩ := r.c a _ hc
      exact .inr (.inr (.inl ⟨e, .inl ⟨vs, h1⟩⟩))
    · exact e.elim
  | _ => exact e.elim
theorem qe_bm (pa : PlainAttrs T) (slot : Slot T name id) (hty : typeOf (.builtin id) = pure (.type "method_descriptor")) (hm : MtR X id r) (hs : SimM X.K r w) (ho : QE X W o to wo) (ha : QA X W (e :: es) ta wa)
    (hbase : attributeBase o name X.env (eval o X.env) = eval o X.env := by rfl)
    (hfew : ((backTo cpos (starEach (e :: es) X.env)).all (fun x => !x.1) && (backToKw cpos (keywordEach [] X.env)).all (fun x => x.1.isSome)
      && decide ((e :: es).length + ([] : List Keyword).length + (if ([] : List Keyword).isEmpty then 0 else 1) < 30)) = true := by rfl)
    (hline : (apos.endLine == cpos.line) = true := by rfl) (hst : starEach (e :: es) X.env = (false, eval e X.env) :: starEach es X.env := by rfl) (hplain : (backTo cpos (starEach es X.env)).any (·.1) = false := by rfl) :
    QE X W (.Call (.Attribute o name apos) (e :: es) [] cpos) (tBM X.K T r to ta) (dBM T w wo wa) :=
  ⟨pe_bm pa slot hty hm ho.pe ha.pe hbase hfew hline hst hplain, fun ρ cs Φ Ψ σ H F Q h R L k => ho.sim ρ cs _ Ψ σ H F _ h R L fun d cs1 v H1 q R1 s1 t1 => ⟨dty_ok R1.r t1 q.1, ha.sim ρ cs1 _ Ψ σ H1 F _ q.2 R1 (L.step s1) fun ds cs2 vs H2 q2 R2' s2 t2 =>
    hs v d vs ds H2 cs2 F Φ Q q2 R2'.r (t1.mono s2.base) t2 fun z cs3 v3 H3 q3 r3 s3 t3 => k z cs3 v3 H3 q3 (R2'.step r3 s3) ((s1.trans s2).trans s3) t3⟩⟩
theorem qe_bm0 (pa : PlainAttrs T) (slot : Slot T name id) (hty : typeOf (.builtin id) = pure (.type "method_descriptor")) (hm : MtR X id r) (hs : SimM X.K r w) (ho : QE X W o to wo)
    (hbase : attributeBase o name X.env (eval o X.env) = eval o X.env := by rfl) (hline : (apos.endLine == cpos.line) = true := by rfl) : QE X W (.Call (.Attribute o name apos) [] [] cpos) (tBM0 X.K T r to) (dBM0 T w wo) :=
  ⟨pe_bm0 pa slot hty hm ho.pe hbase hline, fun ρ cs Φ Ψ σ H F Q h R L k => ho.sim ρ cs _ Ψ σ H F _ h R L fun d cs1 v H1 q R1 s1 t1 => ⟨dty_ok R1.r t1 q.1,
    hs v d [] [] H1 cs1 F Φ Q q.2 R1.r t1 .nil fun z cs3 v3 H3 q3 r3 s3 t3 => k z cs3 v3 H3 q3 (R1.step r3 s3) (s1.trans s3) t3⟩⟩
/-- a list in a cell, changed by a method -/
def wLM (f : List D → List D → (D → List D → Prop) → Prop) : DM := fun d xs cs Φ => match d with
  | .cell a => match cs a with
    | some (.lst ds) => f ds xs (fun z ds' => Φ z (setc cs a (.lst ds')))
    | _ => False
  | _ => False
def wAppend : DM := wLM fun ds xs Q => match xs with
  | [x] => ds.length < 16777216 ∧ Q .non (ds ++ [x])
  | _ => False
def wPop : DM := wLM fun ds xs Q => match xs with
  | [] => ∃ x, ds[ds.length - 1]? = some x ∧ Q x ds.dropLast
  | [.int i] => -(2 ^ 63) ≤ i ∧ i < 2 ^ 63 ∧ ∃ k x, seqIndex? i ds.length = some k ∧ ds[k]? = some x ∧ Q x (ds.eraseIdx k)
  | _ => False
def wInsert : DM := wLM fun ds xs Q => match xs with
  | [.int i, x] => ds.length < 16777216 ∧ 0 ≤ i ∧ i < 2 ^ 63 ∧ Q .non (ds.take i.toNat ++ [x] ++ ds.drop i.toNat)
  | _ => False
theorem simAppend : SimM K rAppend wAppend := fun x d vs ds H cs F Φ Q h r t1 t2 k => by
  cases d with
  | cell a =>
    cases t1
    unfold wAppend wLM at h
    dsimp only at h
    split at h
    · rename_i xs e
      obtain ⟨us, h1, ta⟩ := r.c a _ e
      match ds, vs, t2, h with
      | [y], [v], .cons ty .nil, h =>
        obtain ⟨r2, s2⟩ := r.write (o := .lst (us ++ [v])) (c' := .lst (xs ++ [y])) e ⟨_, upd_same, ta.append (.cons ty .nil)⟩
        exact ⟨a, us, v, rfl, rfl, h1, by rw [ta.length]; exact szl h.1, k _ _ _ _ h.2 r2 s2 .non⟩
    · exact h.elim
  | _ => exact h.elim
theorem DtA.dropLast {B : Hp} {vs : List V} {ds : List D} (h : DtA K B vs ds) : DtA K B vs.dropLast ds.dropLast := by
  rw [List.dropLast_eq_take, List.dropLast_eq_take, h.length]; exact h.take _
def rPopAll : V → List V → Hp → VK → Prop := fun x xs H Q => rPop x xs H Q ∨ rPopAt x xs H Q
theorem mt_popM : MtR X "list.pop" rPop := mt_pop
theorem mt_popAtM : MtR X "list.pop" rPopAt := mt_popAt
theorem mt_popAll : MtR X "list.pop" rPopAll := mt_popM.or mt_popAtM
theorem simPop : SimM K rPopAll wPop := fun x d vs ds H cs F Φ Q h r t1 t2 k => by
  cases d with
  | cell a =>
    cases t1
    unfold wPop wLM at h
    dsimp only at h
    split at h
    · rename_i xs e
      obtain ⟨us, h1, ta⟩ := r.c a _ e
      match ds, vs, t2, h with
      | [], [], .nil, h =>
        obtain ⟨y, ey, q⟩ := h
        obtain ⟨v, ev, ty⟩ := ta.get ey
        obtain ⟨r2, s2⟩ := r.write (o := .lst us.dropLast) (c' := .lst xs.dropLast) e ⟨_, upd_same, ta.dropLast⟩
        exact .inl ⟨a, us, v, rfl, rfl, h1, by rw [ta.length]; exact ev, k _ _ _ _ q r2 s2 (ty.mono s2.base)⟩
      | [.int i], _, .cons (.int _) .nil, h =>
        obtain ⟨b1, b2, j, y, ej, ey, q⟩ := h
        obtain ⟨v, ev, ty⟩ := ta.get ey
        obtain ⟨r2, s2⟩ := r.write (o := .lst (us.eraseIdx j)) (c' := .lst (xs.eraseIdx j)) e ⟨_, upd_same, ta.eraseIdx j⟩
        exact .inr ⟨a, us, i, j, v, rfl, rfl, h1, b1, b2, by rw [ta.length]; exact ej, ev, k _ _ _ _ q r2 s2 (ty.mono s2.base)⟩
    · exact h.elim
  | _ => exact h.elim
def rInsert : V → List V → Hp → VK → Prop := fun x vs H Q => ∃ (l : Addr) (xs : List V) (i : Int) (y : V), x = .ref l ∧ vs = [.int i, y] ∧ H l = some (.lst xs) ∧ xs.length < sizeLine ∧ 0 ≤ i ∧ i < 2 ^ 63 ∧
    Q .non (upd H l (.lst (xs.take i.toNat ++ [y] ++ xs.drop i.toNat)))
theorem mt_insertM : MtR X "list.insert" rInsert := mt_insert
theorem simInsert : SimM K rInsert wInsert := fun x d vs ds H cs F Φ Q h r t1 t2 k => by
  cases d with
  | cell a =>
    cases t1
    unfold wInsert wLM at h
    dsimp only at h
    split at h
    · rename_i xs e
      obtain ⟨us, h1, ta⟩ := r.c a _ e
      match ds, vs, t2, h with
      | [.int i, y], [_, v], .cons (.int _) (.cons ty .nil), h =>
        obtain ⟨b0, b1, b2, q⟩ := h
        obtain ⟨r2, s2⟩ := r.write (o := .lst (us.take i.toNat ++ [v] ++ us.drop i.toNat)) (c' := .lst (xs.take i.toNat ++ [y] ++ xs.drop i.toNat)) e ⟨_, upd_same, ((ta.take _).append (.cons ty .nil)).append (ta.drop _)⟩
        exact ⟨a, us, i, v, rfl, rfl, h1, by rw [ta.length]; exact szl b0, b1, b2, k _ _ _ _ q r2 s2 .non⟩
    · exact h.elim
  | _ => exact h.elim
/-- d.get(k), d.get(k, x) -/
def rGetD : V → List V → Hp → VK → Prop := fun x vs H Q => (∃ a y o, x = .ref a ∧ vs = [y] ∧ DGet H a y o ∧ Q (o.getD .non) H) ∨ ∃ a y z o, x = .ref a ∧ vs = [y, z] ∧ DGet H a y o ∧ Q (o.getD z) H
theorem mt_getD (hu : X.A.units + 1 < cLine) : MtR X "dict.get" rGetD := by
  intro pins s σ H x xs v us Q I rx rs h
  rcases h with ⟨a, y, o, rfl, rfl, g, q⟩ | ⟨a, y, z, o, rfl, rfl, g, q⟩
  · cases rx
    obtain ⟨u, rfl, ru⟩ := rs.one
    exact d_get1 hu I g ru fun w' s' I' rw' => ⟨_, H, I', rw', q⟩
  · cases rx
    obtain ⟨u, w, rfl, ru, rw2⟩ := rs.two
    exact d_get2 hu I g ru rw2 fun w' s' I' rw' => ⟨_, H, I', rw', q⟩
def wGet : DM := fun d xs cs Φ => match d with
  | .cell a => match cs a with
    | some (.dict kvs) => match xs with
      | [y] => ∃ k, dkey y = some k ∧ Φ ((vK kvs k).getD .non) cs
      | [y, z] => ∃ k, dkey y = some k ∧ Φ ((vK kvs k).getD z) cs
      | _ => False
    | _ => False
  | _ => False
theorem getD_dt {B : Hp} {ws : List (Key × V)} {kvs : List (Key × D)} (rel : KvA K B ws kvs) (k : Key) {z : D} {v : V} (t : Dt K B v z) : Dt K B ((valV ws k).getD v) ((vK kvs k).getD z) := by
  cases e : vK kvs k with
  | none => rw [(rel.val k).2 e]; exact t
  | some d => obtain ⟨u, e2, q⟩ := (rel.val k).1 d e; rw [e2]; exact q
theorem simGet : SimM K rGetD wGet := fun x d vs ds H cs F Φ Q h r t1 t2 k => by
  cases d with
  | cell a =>
    cases t1
    unfold wGet at h
    dsimp only at h
    split at h
    · rename_i kvs e
      obtain ⟨ws, h1, rel⟩ := r.c a _ e
      match ds, vs, t2, h with
      | [y], [v], .cons ty .nil, h =>
        obtain ⟨ky, ek, q⟩ := h
        have ev := dkey_ok ty ek
        subst ev
        exact .inl ⟨a, _, _, rfl, rfl, DGet.k h1, k _ cs _ H q r .refl (getD_dt rel ky .non)⟩
      | [y, z], [v, u], .cons ty (.cons tz .nil), h =>
        obtain ⟨ky, ek, q⟩ := h
        have ev := dkey_ok ty ek
        subst ev
        exact .inr ⟨a, _, _, _, rfl, rfl, DGet.k h1, k _ cs _ H q r .refl (getD_dt rel ky tz)⟩
    · exact h.elim
  | _ => exact h.elim
end
end DL
namespace DL
open PySem PySem.Spec PyProof.Rows L2

/-! ## defs, methods, classes with their promises -/
section
variable (P : Program) (w : World) (K : PySem.W.Frag) (mg : Str → Option Value) (base : Heap) (k : Nat)
structure DefOk (x : Str) (ps : List Str) (Pf : DSp) : Prop where
  ex : ∃ f fd, mg x = some (.ref f) ∧ PySem.W.keepIn K (.ref f) = true ∧ Binds K fd ps [] ∧ FnOk P w K mg base (L2.CX P w) k f fd ps (spD K Pf)
structure MethOk (C : Addr) (m : Str) (ps : List Str) (Pf : DSp) : Prop where
  ex : ∃ f fd, Meth K C m f ∧ Binds K fd ps [] ∧ FnOk P w K mg base (L2.CX P w) k f fd ps (spD K Pf)
structure MakeOk (x : Str) (C : Addr) (ps : List Str) (Pf : DSp) : Prop where
  ex : ∃ f fd, mg x = some (.ref C) ∧ Mk K C f ∧ Binds K fd ps [] ∧ FnOk P w K mg base (L2.CX P w) k f fd ps (spD K Pf)
end
section
variable {P : Program} {w : World} {K : PySem.W.Frag} {mg : Str → Option Value} {base : Heap} {k : Nat} {f : Addr} {fd : FuncData} {x qual : Str} {params : Arguments} {body : List Stmt} {scope : Scope} {N ps : List Str} {Pf : DSp} {wf : DS} {C : Addr} {m : Str}
abbrev WEx (E : XK) : WX := fun cls d _ H' => E cls d H'
theorem fn_ok (F : FunD K x qual params body scope [] [] f fd) (S : FnScope N ps scope) (len : ∀ ds cs Φ Ψ, Pf ds cs Φ Ψ → ds.length = ps.length)
    (hb : ∀ (cdv : Value) (A : Around) (outer : List Env) (s : Shared) (H : Hp) (E : XK), Room k (A.deeper (envOfC qual scope s.heap.objs.size f cdv)) →
      ∃ ts, QSs (cxOf (L2.CX P w) P w K mg base N qual scope f cdv A outer s H E) (WEx E) body ts wf)
    (h : ∀ ds cs Φ Ψ, Pf ds cs Φ Ψ → wf { nx := fun _ cs' => Φ .non cs', rt := Φ, ex := fun e _ cs' => Ψ e cs' } (startD N.length ds) cs) : FnOk P w K mg base (L2.CX P w) (k + 1) f fd ps (spD K Pf) := by
  refine F.ok S (fun vs H Q E ⟨cs, F', ds, Φ, Ψ, r, t, p, _, _⟩ => t.length.trans (len ds cs Φ Ψ p)) fun cdv A outer s H vs Q E hr ⟨cs, F', ds, Φ, Ψ, r, t, p, kv, ke⟩ => ?_
  obtain ⟨ts, q⟩ := hb cdv A outer s H E hr
  refine ⟨ts, q.pe, ?_⟩
  refine q.sim (startD N.length ds) cs _ (L2.start N vs) H F' _ (h ds cs Φ Ψ p) ⟨r, start_env t⟩ ?_ ⟨?_, ?_, ?_, ?_⟩
  · intro e ρ' cs' σ' H' a v q1 R s1 e1 t1
    exact ke e cs' H' a v q1 R.r s1 e1 t1
  · intro ρ' cs' σ' H' q1 R s1
    exact kv .non cs' .non H' q1 R.r s1 .non
  · intro d cs' v H' q1 r1 s1 t1
    exact kv d cs' v H' q1 r1 s1 t1
  · intro ρ' cs' σ' H' q1 _ _; exact q1.elim
  · intro ρ' cs' σ' H' q1 _ _; exact q1.elim
abbrev BindH (x qual : Str) (params : Arguments) (body : List Stmt) (scope : Scope) (ps : List Str) : Prop :=
  ∀ (kV doc pm : Value) (an : Option Addr) (cdv ct : Value) (us : List Value), us.length = ps.length → bindArgs (PySem.W.fnOf x qual params body scope .none kV doc pm an cdv ct) ⟨us, []⟩ = pure (ps.zip us)
theorem DefOk.mk' (g : mg x = some (.ref f)) (F : FunD K x qual params body scope [] [] f fd) (b : BindH x qual params body scope ps) (o : FnOk P w K mg base (L2.CX P w) k f fd ps (spD K Pf)) : DefOk P w K mg base k x ps Pf :=
  ⟨f, fd, g, F.kp, F.bindsN b, o⟩
theorem MethOk.mk' (g : Meth K C m f) (F : FunD K x qual params body scope [] [] f fd) (b : BindH x qual params body scope ps) (o : FnOk P w K mg base (L2.CX P w) k f fd ps (spD K Pf)) : MethOk P w K mg base k C m ps Pf :=
  ⟨f, fd, g, F.bindsN b, o⟩
theorem MakeOk.mk' {y : Str} (g : mg y = some (.ref C)) (M : Mk K C f) (F : FunD K x qual params body scope [] [] f fd) (b : BindH x qual params body scope ps) (o : FnOk P w K mg base (L2.CX P w) k f fd ps (spD K Pf)) : MakeOk P w K mg base k y C ps Pf :=
  ⟨f, fd, g, M, F.bindsN b, o⟩
end
section
variable {X : Cx} {W : WX} {Pf : DSp} {k : Nat} {ps : List Str} {x m : Str} {p pos apos : Pos} {e o : Expr} {es : List Expr} {ta : TA} {wa : DA} {to : TE} {wo : DE} {C : Addr}
theorem qe_callD (h : DefOk X.prog X.w X.K X.mg X.base k x ps Pf) (hr : Room k X.A) (tk : Takes X W) (hg : Gl X x) (ha : QA X W (e :: es) ta wa)
    (hdb : (x == ("__debug__" : Str)) = false := by decide) (he : starEach (e :: es) X.env = (false, eval e X.env) :: starEach es X.env := by rfl) (hpl : (backTo pos (starEach es X.env)).any (·.1) = false := by rfl) :
    QE X W (.Call (.Name x p) (e :: es) [] pos) (tCallS (spD X.K Pf) (WE W) ta) (dCall Pf wa) := by
  obtain ⟨f, fd, h1, h2, h3, h4⟩ := h.ex
  exact qe_call h4 hr tk hg h1 h2 h3 ha hdb he hpl
theorem qe_methD {pl : Sem Bool} (ho : QE X W o to wo) (c : Cls X.K C) (h : MethOk X.prog X.w X.K X.mg X.base k C m ps Pf) (hr : Room k X.A) (tk : Takes X W) (ha : QA X W (e :: es) ta wa)
    (hst : starEach (e :: es) X.env = (false, eval e X.env) :: starEach es X.env := by rfl) (hpl : (backTo pos (starEach es X.env)).any (·.1) = false := by rfl)
    (ht : eval (.Call (.Attribute o m apos) (e :: es) [] pos) X.env = (do
      let ov ← eval o X.env
      standAt apos.atName
      let (f, first) ← holding [ov] (getMethod ov m pl)
      callWith pos f first (backTo pos (starEach (e :: es) X.env)) (backToKw pos (keywordEach [] X.env))) := by rfl) :
    QE X W (.Call (.Attribute o m apos) (e :: es) [] pos) (tMethS C m (spD X.K Pf) (WE W) to ta) (dMeth C m Pf wo wa) := by
  obtain ⟨f, fd, h1, h3, h4⟩ := h.ex
  exact qe_meth ho c h1 h4 hr tk h3 ha hst hpl ht
theorem qe_methD0 {pl : Sem Bool} (ho : QE X W o to wo) (c : Cls X.K C) (h : MethOk X.prog X.w X.K X.mg X.base k C m ps Pf) (hr : Room k X.A) (tk : Takes X W)
    (ht : eval (.Call (.Attribute o m apos) [] [] pos) X.env = (do
      let ov ← eval o X.env
      standAt apos.atName
      let (f, first) ← holding [ov] (getMethod ov m pl)
      callWith pos f first (backTo pos (starEach [] X.env)) (backToKw pos (keywordEach [] X.env))) := by rfl) :
    QE X W (.Call (.Attribute o m apos) [] [] pos) (tMethS C m (spD X.K Pf) (WE W) to tNil) (dMeth C m Pf wo dNil) := by
  obtain ⟨f, fd, h1, h3, h4⟩ := h.ex
  exact qe_meth0 ho c h1 h4 hr tk h3 ht
theorem qe_makeD (h : MakeOk X.prog X.w X.K X.mg X.base k x C ps Pf) (hr : Room (k + 1) X.A) (tk : Takes X W) (hg : Gl X x) (ha : QA X W (e :: es) ta wa)
    (hdb : (x == ("__debug__" : Str)) = false := by decide) (he : starEach (e :: es) X.env = (false, eval e X.env) :: starEach es X.env := by rfl) (hpl : (backTo pos (starEach es X.env)).any (·.1) = false := by rfl) :
    QE X W (.Call (.Name x p) (e :: es) [] pos) (tMakeS C (spD X.K Pf) (WE W) ta) (dMake C Pf wa) := by
  obtain ⟨f, fd, h1, h2, h3, h4⟩ := h.ex
  exact qe_make h2 h4 hr tk hg h1 h3 ha hdb he hpl
theorem qe_makeD0 (h : MakeOk X.prog X.w X.K X.mg X.base k x C ps Pf) (hr : Room (k + 1) X.A) (tk : Takes X W) (hg : Gl X x)
    (hdb : (x == ("__debug__" : Str)) = false := by decide) : QE X W (.Call (.Name x p) [] [] pos) (tMakeS C (spD X.K Pf) (WE W) tNil) (dMake C Pf dNil) := by
  obtain ⟨f, fd, h1, h2, h3, h4⟩ := h.ex
  exact qe_make0 h2 h4 hr tk hg h1 h3 hdb
end

/-! ## ghost steps: what is known is told another way -/
def Gh (ρ : EnvD) (cs : Cs) (ρ' : EnvD) (cs' : Cs) : Prop := ∀ K σ H F, RS K σ H ρ cs F → RS K σ H ρ' cs' F ∧ Stp H cs H cs' F
def GhV (d : D) (cs : Cs) (d' : D) (cs' : Cs) : Prop := ∀ K H F v, Rl K H cs F → Dt K (hid H cs F) v d → Rl K H cs' F ∧ Stp H cs H cs' F ∧ Dt K (hid H cs' F) v d'
def dG (a : DS) : DS := fun D ρ cs => a { D with nx := fun ρ1 cs1 => ∃ ρ2 cs2, Gh ρ1 cs1 ρ2 cs2 ∧ D.nx ρ2 cs2, ct := fun ρ1 cs1 => ∃ ρ2 cs2, Gh ρ1 cs1 ρ2 cs2 ∧ D.ct ρ2 cs2, bk := fun ρ1 cs1 => ∃ ρ2 cs2, Gh ρ1 cs1 ρ2 cs2 ∧ D.bk ρ2 cs2 } ρ cs
def dGv (w : DE) : DE := fun ρ cs Φ Ψ => w ρ cs (fun d cs1 => ∃ d' cs2, GhV d cs1 d' cs2 ∧ Φ d' cs2) Ψ
section
variable {X : Cx} {W : WX} {st : Stmt} {t : TS} {a : DS} {e : Expr} {te : TE} {we : DE}
theorem qs_g (h : QS X W st t a) : QS X W st t (dG a) := ⟨h.pe, fun ρ cs D σ H F D' hw R E L => h.sim ρ cs _ σ H F D' hw R E
  ⟨fun ρ' cs' σ' H' ⟨ρ2, cs2, g, q⟩ R1 s1 => by
    obtain ⟨R2, s2⟩ := g _ _ _ _ R1
    exact L.nx _ _ _ _ q R2 (s1.trans s2), L.rt,
  fun ρ' cs' σ' H' ⟨ρ2, cs2, g, q⟩ R1 s1 => by
    obtain ⟨R2, s2⟩ := g _ _ _ _ R1
    exact L.bk _ _ _ _ q R2 (s1.trans s2),
  fun ρ' cs' σ' H' ⟨ρ2, cs2, g, q⟩ R1 s1 => by
    obtain ⟨R2, s2⟩ := g _ _ _ _ R1
    exact L.ct _ _ _ _ q R2 (s1.trans s2)⟩⟩
theorem qe_gv (h : QE X W e te we) : QE X W e te (dGv we) := ⟨h.pe, fun ρ cs Φ Ψ σ H F Q hw R L k => h.sim ρ cs _ Ψ σ H F _ hw R L fun d cs1 v H1 ⟨d', cs2, g, q⟩ R1 s1 t1 => by
  obtain ⟨r2, s2, t2⟩ := g _ _ _ _ R1.r t1
  exact k d' cs2 v H1 q (R1.step r2 s2) (s1.trans s2) t2⟩
end
theorem Gh.refl {ρ : EnvD} {cs : Cs} : Gh ρ cs ρ cs := fun K σ H F R => ⟨R, .refl⟩
theorem Gh.trans {ρ ρ1 ρ2 : EnvD} {cs cs1 cs2 : Cs} (a : Gh ρ cs ρ1 cs1) (b : Gh ρ1 cs1 ρ2 cs2) : Gh ρ cs ρ2 cs2 := fun K σ H F R => by
  obtain ⟨R1, s1⟩ := a K σ H F R
  obtain ⟨R2, s2⟩ := b K σ H F R1
  exact ⟨R2, s1.trans s2⟩
theorem GhV.refl {d : D} {cs : Cs} : GhV d cs d cs := fun K H F v r t => ⟨r, .refl, t⟩
theorem GhV.trans {d d1 d2 : D} {cs cs1 cs2 : Cs} (a : GhV d cs d1 cs1) (b : GhV d1 cs1 d2 cs2) : GhV d cs d2 cs2 := fun K H F v r t => by
  obtain ⟨r1, s1, t1⟩ := a K H F v r t
  obtain ⟨r2, s2, t2⟩ := b K H F v r1 t1
  exact ⟨r2, s1.trans s2, t2⟩
/-- a slot's value, by a ghost step of values -/
theorem EnvR.at_ {K : PySem.W.Frag} {B : Hp} : ∀ {σ : L2.St} {ρ : EnvD}, EnvR K B σ ρ → ∀ {i : Nat} {d d' : D}, ρ[i]? = some (some d) → (∀ v, σ[i]? = some (some v) → Dt K B v d → Dt K B v d') → EnvR K B σ (ρ.set i (some d'))
  | _, _, .nil, i, d, d', h, _ => by simp at h
  | _, _, .cons (a := so) r t, 0, d, d', h, k => by
    simp at h; subst h
    obtain ⟨v, e, q⟩ := r d rfl
    exact .cons (fun d2 e2 => by cases e2; exact ⟨v, e, k v (by simp [e]) q⟩) t
  | _, _, .cons r t, i + 1, d, d', h, k => .cons r (EnvR.at_ t (i := i) (d := d) (by simpa using h) fun v hv q => k v (by simpa using hv) q)
theorem Gh.var {ρ : EnvD} {cs cs' : Cs} {i : Nat} {d d' : D} (h : ρ[i]? = some (some d)) (g : GhV d cs d' cs') : Gh ρ cs (ρ.set i (some d')) cs' := fun K σ H F R => by
  obtain ⟨v, e, q⟩ := R.e.get h
  obtain ⟨r2, s2, _⟩ := g K H F v R.r q
  refine ⟨⟨r2, ?_⟩, s2⟩
  have E2 := EnvR.mono s2.base R.e
  exact E2.at_ h fun u hu qu => by
    have := (g K H F u R.r (by rw [e] at hu; cases hu; exact q)).2.2
    exact this
/-- a list cell is frozen -/
theorem GhV.frz {cs : Cs} {a : Addr} {ds : List D} (h : cs a = some (.lst ds)) : GhV (.cell a) cs (.lst ds) (delc cs a) := fun K H F v r t => by
  cases t
  obtain ⟨vs, h1, t⟩ := r.c a _ h
  obtain ⟨r2, s2⟩ := r.del (a := a)
  exact ⟨r2, s2, .lst ((hid_ne delc_same (r.d a _ h)).trans h1) (t.mono s2.base)⟩
/-- a cell inside of a list cell is frozen -/
theorem GhV.inner {cs : Cs} {a b : Addr} {ds es : List D} {i : Nat} (hb : cs b = some (.lst ds)) (ha : cs a = some (.lst es)) (hi : es[i]? = some (.cell b)) (ne : a ≠ b) : GhV (.cell a) cs (.cell a) (setc (delc cs b) a (.lst (es.set i (.lst ds)))) := fun K H F v r t => by
  cases t
  obtain ⟨vs, h1, tb⟩ := r.c b _ hb
  obtain ⟨us, h2, ta⟩ := r.c a _ ha
  obtain ⟨r2, s2⟩ := r.del (a := b)
  obtain ⟨u, eu, tu⟩ := ta.get hi
  cases tu
  have td : Dt K (hid H (delc cs b) F) (.ref b) (.lst ds) := .lst ((hid_ne delc_same (r.d b _ hb)).trans h1) (tb.mono s2.base)
  have ta2 : DtA K (hid H (delc cs b) F) us (es.set i (.lst ds)) := by
    have q := DtA.set td i (ta.mono s2.base)
    have e : us.set i (.ref b) = us := by
      apply List.ext_getElem?
      intro j
      by_cases hj : i = j
      · subst hj
        have hl := (List.getElem?_eq_some_iff.mp eu).1
        rw [List.getElem?_set_self hl, eu]
      · rw [List.getElem?_set_ne hj]
    rw [e] at q
    exact q
  have hda : delc cs b a = some (.lst es) := by rw [delc_ne ne]; exact ha
  have s3 : hid H (setc (delc cs b) a (.lst (es.set i (.lst ds)))) F = hid H (delc cs b) F := by
    funext x; unfold hid
    by_cases e : x = a
    · subst e; rw [setc_same, hda]; simp
    · rw [setc_ne e]
  refine ⟨⟨fun x y e => ?_, r2.f, fun x y e => ?_⟩, ⟨by rw [s3]; exact s2.base⟩, .cell a⟩
  · rw [s3]
    by_cases ex : x = a
    · subst ex; rw [setc_same] at e; cases e; exact ⟨us, h2, ta2⟩
    · rw [setc_ne ex] at e; exact r2.c x y e
  · by_cases ex : x = a
    · subst ex; exact r2.d x _ hda
    · rw [setc_ne ex] at e; exact r2.d x y e
end DL
namespace DL
open PySem PySem.Spec PyProof.Rows L2

/-! ## a < b < c -/
def dChain (w w' : DR) (wa wb wc : DE) : DE := fun ρ cs Φ Ψ => wa ρ cs (fun x cs1 => wb ρ cs1 (fun y cs2 => w x y cs2 (fun z cs3 => match z with
  | .bl k => if k = true then wc ρ cs3 (fun u cs4 => w' y u cs4 Φ) Ψ else Φ (.bl false) cs3
  | _ => False)) Ψ) Ψ
section
variable {X : Cx} {W : WX} {K : PySem.W.Frag} {a b c : Expr} {ta tb tc : TE} {wa wb wc : DE} {r r' : R2} {w w' : DR} {pos : Pos} {op op' : CmpOp}
theorem sim_chain (hr : SimR K r w) (hr' : SimR K r' w') (ha : SimE K W ta wa) (hb : SimE K W tb wb) (hc : SimE K W tc wc) : SimE K W (tChain r r' ta tb tc) (dChain w w' wa wb wc) := fun ρ cs Φ Ψ σ H F Q h R L k => by
  refine ha ρ cs _ Ψ σ H F _ h R L fun x cs1 v H1 h1 R1 s1 t1 => ?_
  refine hb ρ cs1 _ Ψ σ H1 F _ h1 R1 (L.step s1) fun y cs2 u H2 h2 R2' s2 t2 => ?_
  refine hr v u x y H2 cs2 F _ _ h2 R2'.r (t1.mono s2.base) t2 fun z cs3 v3 H3 h3 r3 s3 t3 => ?_
  have S := (s1.trans s2).trans s3
  cases z with
  | bl k' =>
    cases t3
    refine ⟨k', rfl, ?_⟩
    cases k' with
    | true =>
      refine hc ρ cs3 _ Ψ σ H3 F _ h3 (R.step r3 S) (L.step S) fun d cs4 v4 H4 h4 R4 s4 t4 => ?_
      exact hr' u v4 y d H4 cs4 F Φ Q h4 R4.r (t2.mono (s3.trans s4).base) t4 fun z' cs5 v5 H5 h5 r5 s5 t5 => k z' cs5 v5 H5 h5 (R.step r5 (S.trans (s4.trans s5))) (S.trans (s4.trans s5)) t5
    | false => exact k _ cs3 _ H3 h3 (R.step r3 S) S (.bl _)
  | _ => exact h3.elim
theorem qe_chain (ho : OpR X (compareOp op) r) (hr : SimR X.K r w) (ho' : OpR X (compareOp op') r') (hr' : SimR X.K r' w') (ha : QE X W a ta wa) (hb : QE X W b tb wb) (hc : QE X W c tc wc)
    (hm : lastMarks [op, op'] [b, c] = false := by with_unfolding_all rfl) : QE X W (.Compare a [op, op'] [b, c] pos) (tChain r r' ta tb tc) (dChain w w' wa wb wc) := ⟨pe_chain ho ho' ha.pe hb.pe hc.pe hm, sim_chain hr hr' ha.sim hb.sim hc.sim⟩
theorem qt_chain (ho : OpR X (compareOp op) r) (hr : SimR X.K r w) (ho' : OpR X (compareOp op') r') (hr' : SimR X.K r' w') (ha : QE X W a ta wa) (hb : QE X W b tb wb) (hc : QE X W c tc wc)
    (hm : lastMarks [op, op'] [b, c] = false := by with_unfolding_all rfl) : QT X W (.Compare a [op, op'] [b, c] pos) (tTest (tChain r r' ta tb tc)) (dB (dChain w w' wa wb wc)) := ⟨pt_chain ho ho' ha.pe hb.pe hc.pe hm, sim_B (sim_chain hr hr' ha.sim hb.sim hc.sim)⟩
end

/-! ## names: a type, a constant by an existence -/
section
variable {X : Cx} {W : WX} {x : Str} {pos : Pos} {i : Nat} {e : Expr} {te : TE} {we : DE}
theorem qe_gintE {n : Int} (hm : ∃ t, X.mg x = some (.int n t)) (hg : Gl X x) (hd : (x == ("__debug__" : Str)) = false := by decide) : QE X W (.Name x pos) (tC (.int n)) (dC (.int n)) := by
  obtain ⟨t, h⟩ := hm
  exact qe_gint hg h hd
theorem qe_gstrE {n : Str} (hm : ∃ t, X.mg x = some (.str n t)) (hg : Gl X x) (hd : (x == ("__debug__" : Str)) = false := by decide) : QE X W (.Name x pos) (tC (.str n)) (dC (.str n)) := by
  obtain ⟨t, h⟩ := hm
  exact qe_gstr hg h hd
theorem qe_ty {T : String} (hm : X.mg x = none) (hg : Gl X x) (hv : bootBuiltins x = some (.type T)) (hn : x ≠ "__name__" := by decide) (hd : (x == ("__debug__" : Str)) = false := by decide) : QE X W (.Name x pos) (tC (.ty T)) (dC (.val (.ty T))) :=
  ⟨pe_bltn hg hm hv rfl hn hd, sim_c fun _ => .val _⟩
/-- name = e -/
theorem qs_setN {pos' : Pos} (hN : X.N.Nodup) (hi : X.N[i]? = some x) (hx : Loc X.env.scope x) (h : QE X W e te we) (hs : swapsWith e (some (.Name x pos')) pos.line X.env = pure false := by rfl)
    (hf : X.fn x = true ∨ X.env.scope.names.lookup x = some .local := by first | exact .inl rfl | exact .inr rfl | assumption) : QS X W (.Assign [.Name x pos'] e pos) (tAsg te (gName i)) (dAsg we (dgName i)) :=
  qs_set h (ps_set hN hi hx h.pe hs hf)
theorem qs_augN {op : Operator} {pos' : Pos} (hN : X.N.Nodup) (hi : X.N[i]? = some x) (hx : Loc X.env.scope x) (h : QE X W e te we)
    (hf : X.fn x = true ∨ X.env.scope.names.lookup x = some .local := by first | exact .inl rfl | exact .inr rfl | assumption) : QS X W (.AugAssign (.Name x pos') op e pos) (tAug i te (tipOf op)) (dAug op i we) :=
  qs_aug h (ps_aug hN hi hx h.pe (pip_of op) hf)
theorem qs_parN {i j : Nat} {x y : Str} {a b : Expr} {ta : TA} {wa : DA} {px py pt : Pos} {kt k2 pt2} (hc : X.calm = true) (hN : X.N.Nodup) (hi : X.N[i]? = some x) (hj : X.N[j]? = some y) (hij : i ≠ j)
    (hx : X.env.scope.names.lookup x = some .local) (hy : X.env.scope.names.lookup y = some .local) (ha : QA X W [a, b] ta wa)
    (hw : swappedStores [.Tuple [.Name x px, .Name y py] kt pt] (.Tuple [a, b] k2 pt2) X.env = pure (some [x, y]))
    (hs : swapsWithSole [.Tuple [.Name x px, .Name y py] kt pt] (.Tuple [a, b] k2 pt2) pos.line X.env = pure false := by rfl) :
    QS X W (.Assign [.Tuple [.Name x px, .Name y py] kt pt] (.Tuple [a, b] k2 pt2) pos) (tPar i j ta) (dPar i j wa) := qs_par ha.sim (ps_par hc hN hi hj hij hx hy ha.pe hw hs)
theorem qs_par3N {i j l : Nat} {x y z : Str} {a b c : Expr} {ta : TA} {wa : DA} {px py pz pt pos : Pos} {kt k2 pt2} (hc : X.calm = true) (hN : X.N.Nodup) (hi : X.N[i]? = some x) (hj : X.N[j]? = some y) (hl : X.N[l]? = some z) (hij : i ≠ j) (hil : i ≠ l) (hjl : j ≠ l)
    (hx : X.env.scope.names.lookup x = some .local) (hy : X.env.scope.names.lookup y = some .local) (hz : X.env.scope.names.lookup z = some .local) (ha : QA X W [a, b, c] ta wa)
    (hw : swappedStores [.Tuple [.Name x px, .Name y py, .Name z pz] kt pt] (.Tuple [a, b, c] k2 pt2) X.env = pure (some [x, y, z]))
    (hs : swapsWithSole [.Tuple [.Name x px, .Name y py, .Name z pz] kt pt] (.Tuple [a, b, c] k2 pt2) pos.line X.env = pure false := by rfl) :
    QS X W (.Assign [.Tuple [.Name x px, .Name y py, .Name z pz] kt pt] (.Tuple [a, b, c] k2 pt2) pos) (tPar3 i j l ta) (dPar3 i j l wa) := qs_par3 ha.sim (ps_par3 hc hN hi hj hl hij hil hjl hx hy hz ha.pe hw hs)
theorem tk0 : Takes X W0 := fun u s' ⟨a, B, sI, pins, σ, H, cls, d, _, _, _, _, _, _, _, _, w⟩ => w.elim
end

/-! ## comprehensions, in short -/
section
variable {X : Cx} {W : WX} {m : NewM} {wi : TI} {w : DI} {g : TG} {wg : DG} {tt : TT} {wt : DT} {te : TE} {we : DE} {elt tg iter c : Expr} {scope : Scope} {own : List (Str × Nat)} {pos : Pos}
theorem qe_lc0 (own : List (Str × Nat)) (hm : NewOk m) (hc : X.calm = true) (hN : X.N.Nodup) (hi : QI X W tg iter wi w) (ok : BlkOk X.N X.env.scope scope own)
    (hg : ∀ (s : Shared) (H : Hp) (C : Addr) (cl : List (Str × Addr)) (fp : List Addr), QG (X.blk s H scope (compEnvC scope cl C X.env) fp) W0 tg g wg) (ho : TOk (own.map (·.2)) g)
    (he : ∀ (s : Shared) (H : Hp) (C : Addr) (cl : List (Str × Addr)) (fp : List Addr), QE (X.blk s H scope (compEnvC scope cl C X.env) fp) W0 elt te we) (hs : ∀ x, foldedSetIterable iter X.env x = pure x := by intro _; rfl) :
    QE X W (.ListComp elt [⟨tg, iter, [], 0⟩] scope pos) (tLc wi g tYes te (own.map (·.2))) (dLc m w wg dYes we (own.map (·.2))) :=
  qe_lc hm hc hN hi ok hg ho (fun _ _ _ _ _ => pts_nil) sim_yes he hs
theorem qe_lc1 (own : List (Str × Nat)) (hm : NewOk m) (hc : X.calm = true) (hN : X.N.Nodup) (hi : QI X W tg iter wi w) (ok : BlkOk X.N X.env.scope scope own)
    (hg : ∀ (s : Shared) (H : Hp) (C : Addr) (cl : List (Str × Addr)) (fp : List Addr), QG (X.blk s H scope (compEnvC scope cl C X.env) fp) W0 tg g wg) (ho : TOk (own.map (·.2)) g)
    (ht : ∀ (s : Shared) (H : Hp) (C : Addr) (cl : List (Str × Addr)) (fp : List Addr), QT (X.blk s H scope (compEnvC scope cl C X.env) fp) W0 c tt wt)
    (he : ∀ (s : Shared) (H : Hp) (C : Addr) (cl : List (Str × Addr)) (fp : List Addr), QE (X.blk s H scope (compEnvC scope cl C X.env) fp) W0 elt te we) (hs : ∀ x, foldedSetIterable iter X.env x = pure x := by intro _; rfl) :
    QE X W (.ListComp elt [⟨tg, iter, [c], 0⟩] scope pos) (tLc wi g tt te (own.map (·.2))) (dLc m w wg wt we (own.map (·.2))) :=
  qe_lc hm hc hN hi ok hg ho (fun s H C cl fp => pts_one (ht s H C cl fp).pe) (ht X.s_0 X.H_0 0 [] []).sim he hs
theorem qs_lc0 {i : Nat} {y : Str} {py spos : Pos} (own : List (Str × Nat)) (hm : NewOk m) (hc : X.calm = true) (hN : X.N.Nodup) (hy : X.N[i]? = some y) (hyl : X.env.scope.names.lookup y = some .local)
    (hsw : swapsWith (.ListComp elt [⟨tg, iter, [], 0⟩] scope pos) (some (.Name y py)) spos.line X.env = pure true) (hi : QI X W tg iter wi w) (ok : BlkOk X.N X.env.scope scope own)
    (hg : ∀ (s : Shared) (H : Hp) (C : Addr) (cl : List (Str × Addr)) (fp : List Addr), QG (X.blk s H scope (compEnvC scope cl C X.env) fp) W0 tg g wg) (ho : TOk (own.map (·.2)) g)
    (he : ∀ (s : Shared) (H : Hp) (C : Addr) (cl : List (Str × Addr)) (fp : List Addr), QE (X.blk s H scope (compEnvC scope cl C X.env) fp) W0 elt te we) (hs : ∀ x, foldedSetIterable iter X.env x = pure x := by intro _; rfl) :
    QS X W (.Assign [.Name y py] (.ListComp elt [⟨tg, iter, [], 0⟩] scope pos) spos) (tAsg (tLc wi g tYes te (own.map (·.2))) (gName i)) (dAsg (dLc m w wg dYes we (own.map (·.2))) (dgName i)) :=
  qs_setLc hm hc hN hy hyl hsw hi ok hg ho (fun _ _ _ _ _ => pts_nil) sim_yes he hs
theorem qs_lc1 {i : Nat} {y : Str} {py spos : Pos} (own : List (Str × Nat)) (hm : NewOk m) (hc : X.calm = true) (hN : X.N.Nodup) (hy : X.N[i]? = some y) (hyl : X.env.scope.names.lookup y = some .local)
    (hsw : swapsWith (.ListComp elt [⟨tg, iter, [c], 0⟩] scope pos) (some (.Name y py)) spos.line X.env = pure true) (hi : QI X W tg iter wi w) (ok : BlkOk X.N X.env.scope scope own)
    (hg : ∀ (s : Shared) (H : Hp) (C : Addr) (cl : List (Str × Addr)) (fp : List Addr), QG (X.blk s H scope (compEnvC scope cl C X.env) fp) W0 tg g wg) (ho : TOk (own.map (·.2)) g)
    (ht : ∀ (s : Shared) (H : Hp) (C : Addr) (cl : List (Str × Addr)) (fp : List Addr), QT (X.blk s H scope (compEnvC scope cl C X.env) fp) W0 c tt wt)
    (he : ∀ (s : Shared) (H : Hp) (C : Addr) (cl : List (Str × Addr)) (fp : List Addr), QE (X.blk s H scope (compEnvC scope cl C X.env) fp) W0 elt te we) (hs : ∀ x, foldedSetIterable iter X.env x = pure x := by intro _; rfl) :
    QS X W (.Assign [.Name y py] (.ListComp elt [⟨tg, iter, [c], 0⟩] scope pos) spos) (tAsg (tLc wi g tt te (own.map (·.2))) (gName i)) (dAsg (dLc m w wg wt we (own.map (·.2))) (dgName i)) :=
  qs_setLc hm hc hN hy hyl hsw hi ok hg ho (fun s H C cl fp => pts_one (ht s H C cl fp).pe) (ht X.s_0 X.H_0 0 [] []).sim he hs
end

/-! ## isinstance -/
def dtyp (cs : Cs) : D → Option String
  | .non => some "NoneType"
  | .bl _ => some "bool"
  | .int _ => some "int"
  | .str _ => some "str"
  | .tup _ => some "tuple"
  | .lst _ => some "list"
  | .rl _ => some "list"
  | .cell a => match cs a with
    | some (.lst _) => some "list"
    | some (.dict _) => some "dict"
    | _ => none
  | .val _ => none
  | .exn _ _ _ => none
  | .pt _ => none
def wIsi : DC := fun ds cs Φ => match ds with
  | [d, .val (.ty T)] => ∃ t b, dtyp cs d = some t ∧ kitB t T = some b ∧ Φ (.bl b) cs
  | _ => False
section
variable {K : PySem.W.Frag}
theorem dtyp_ok {H : Hp} {cs : Cs} {F : Hp} {v : V} {d : D} {t : String} (r : Rl K H cs F) (h : Dt K (hid H cs F) v d) (e : dtyp cs d = some t) : TyX K H v (.type t) := by
  have lst : ∀ {a xs}, SqL K H a xs → TyX K H (.ref a) (.type "list") := fun {a xs} q => by
    rcases q with (q | ⟨o, q⟩) | ⟨o, its, n, q, c, _⟩
    · exact .base (.lst q)
    · exact .base (.frz q)
    · exact .kList q c
  cases h with
  | non => cases e; exact .base .non
  | bl b => cases e; exact .base (.bl b)
  | int i => cases e; exact .base (.int i)
  | str s => cases e; exact .base (.str s)
  | tup sa ta =>
    cases e
    rcases same_t hid_sub sa with (q | ⟨o, q⟩) | ⟨o, its, n, q, c, _⟩
    · exact .base (.tup q)
    · exact .fTuple q
    · exact .kTuple q c
  | lst sa ta => cases e; exact .base (.lst (hid_sub _ _ sa))
  | rl sa ta => cases e; exact lst (same_l hid_sub sa)
  | cell a =>
    unfold dtyp at e
    dsimp only at e
    split at e
    · rename_i ds hc
      cases e
      obtain ⟨vs, h1, _⟩ := r.c a _ hc
      exact .base (.lst h1)
    · rename_i ds hc
      cases e
      obtain ⟨vs, h1, _⟩ := r.c a _ hc
      exact .base (.dK h1)
    · cases e
  | val v => cases e
  | exn _ _ => cases e
  | pt _ => cases e
theorem simIsi : SimC K (rIsi K) wIsi := fun vs ds H cs F Φ Q h r t k => by
  match ds, vs, t, h with
  | [d, .val (.ty T)], _, .cons t1 (.cons (.val _) .nil), h =>
    obtain ⟨ty, b, e1, e2, q⟩ := h
    exact ⟨_, _, _, _, b, rfl, .ty T, dtyp_ok r t1 e1, kit_ty e2, k _ cs _ H q r .refl (.bl _)⟩
end

/-! ## is not True -/
def wIsB (f : Bool → Bool) : DR
  | .bl a, .bl b, cs, Φ => Φ (.bl (f (decide (a = b)))) cs
  | _, _, _, _ => False
section
variable {K : PySem.W.Frag}
theorem simIsB : SimR K rIsB (wIsB id) := fun x y d e H cs F Φ Q h r h1 h2 k => by
  cases d with
  | bl a => cases e with
    | bl b => cases h1; cases h2; exact ⟨a, b, rfl, rfl, k _ cs _ H h r .refl (.bl _)⟩
    | _ => exact h.elim
  | _ => exact h.elim
theorem simNotB : SimR K rNotB (wIsB not) := fun x y d e H cs F Φ Q h r h1 h2 k => by
  cases d with
  | bl a => cases e with
    | bl b => cases h1; cases h2; exact ⟨a, b, rfl, rfl, k _ cs _ H h r .refl (.bl _)⟩
    | _ => exact h.elim
  | _ => exact h.elim
end

/-! ## range(a, b, c), c > 0 -/
def rngC (lo c : Int) (n : Nat) : List D := (List.range n).map fun (i : Nat) => D.int (lo + (i : Int) * c)
theorem rngC_length {lo c : Int} {n : Nat} : (rngC lo c n).length = n := by simp [rngC]
theorem rngC_get {lo c : Int} {n i : Nat} {d : D} (h : (rngC lo c n)[i]? = some d) : i < n ∧ d = .int (lo + (i : Int) * c) := by
  unfold rngC at h
  rw [List.getElem?_map] at h
  by_cases hi : i < n
  · rw [List.getElem?_range hi] at h; cases h; exact ⟨hi, rfl⟩
  · rw [List.getElem?_eq_none (by simpa using hi)] at h; cases h
theorem yld_rc {K : PySem.W.Frag} {B : Hp} {lo c : Int} {n : Nat} : Yld K (Itc lo c n) B (rngC lo c n) (fun _ => True) where
  go := fun i H cs F r s k hi => by rw [rngC_length] at hi; exact hi
  stop := fun i H cs F r s k hi => by rw [rngC_length] at hi; exact hi
  yld := fun i H cs F x H' d r s k e y => by
    obtain ⟨rfl, rfl⟩ := y
    obtain ⟨_, rfl⟩ := rngC_get e
    exact ⟨r, .refl, .int _⟩
def diRng3 (w : DA) : DI := fun ρ cs Φ Ψ => w ρ cs (fun ds cs1 => match ds with
  | [.int i, .int j, .int c] => ∃ n, RgC i j c n ∧ Φ (rngC i c n) (fun _ => True) cs1
  | _ => False) Ψ
section
variable {X : Cx} {W : WX} {K : PySem.W.Frag} {tg a b c : Expr} {ta : TA} {wa : DA}
theorem sim_rng3 (h : SimA K W ta wa) : SimI K W (iRng3 ta) (diRng3 wa) := fun ρ cs Φ Ψ σ H F R' hw R L k => h ρ cs _ _ σ H F _ hw R L fun ds cs1 vs H1 q R1 s1 t1 => by
  match ds, vs, t1, q with
  | [.int i, .int j, .int c], _, .cons (.int _) (.cons (.int _) (.cons (.int _) .nil)), q =>
    obtain ⟨n, g, q⟩ := q
    exact ⟨i, j, c, n, rfl, g, k _ _ cs1 H1 _ q R1 s1 yld_rc⟩
theorem qi_rng3 {p pos : Pos} (hg : Gl X "range") (hm : X.mg "range" = none) (h : QA X W [a, b, c] ta wa) (hs : starEach [a, b, c] X.env = (false, eval a X.env) :: starEach [b, c] X.env := by rfl) (hpl : (backTo pos (starEach [b, c] X.env)).any (·.1) = false := by rfl) :
    QI X W tg (.Call (.Name "range" p) [a, b, c] [] pos) (iRng3 ta) (diRng3 wa) := ⟨pi_range3 hg hm h.pe hs hpl, sim_rng3 h.sim⟩
end

/-! ## xs[::-1] -/
def dRevL (m : NewM) (w : DE) : DE := fun ρ cs Φ Ψ => w ρ cs (fun d cs1 => ∃ ds, lq cs1 d = some ds ∧ m ds.reverse cs1 Φ) Ψ
theorem qe_revL {X : Cx} {W : WX} {m : NewM} (hm : NewOk m) {e : Expr} {te : TE} {we : DE} {k : Nat} {p1 p2 p3 pos : Pos} (h : QE X W e te we) : QE X W (.Subscript e (.Slice none none (some (.UnaryOp .USub (.Constant (.int 1) k p1) p2)) p3) pos) (tRevL X.K te) (dRevL m we) :=
  ⟨pe_revL h.pe, fun ρ cs Φ Ψ σ H F Q hw R L k => h.sim ρ cs _ Ψ σ H F _ hw R L fun d cs1 v H1 ⟨ds, e, q⟩ R1 s1 t1 => by
    obtain ⟨a, us, rfl, sa, ta⟩ := lq_ok R1.r t1 e
    refine ⟨a, us, rfl, sa, fun p hp => ?_⟩
    obtain ⟨z, cs', hz, r2, s2, q2⟩ := hm.new X.K H1 cs1 F _ _ p Φ q R1.r ta.reverse hp
    exact k z cs' _ _ hz (R1.step r2 s2) (s1.trans s2) q2⟩

/-! ## x in a list of tuples -/
theorem any_py {n m : Nat} {x : D} (hx : Shal m x) : ∀ {ds : List D}, (∀ d ∈ ds, Shal n d) → ((pyds ds).any fun z => PyData.eqv z (pyd x)) = ds.any fun d => deq d x
  | [], _ => rfl
  | d :: ds, h => by
    show (PyData.eqv (pyd d) (pyd x) || (pyds ds).any fun z => PyData.eqv z (pyd x)) = (deq d x || ds.any fun d => deq d x)
    rw [deq_py d x (h d (List.mem_cons_self ..)) hx, any_py hx fun e he => h e (List.mem_cons_of_mem _ he)]
end DL
namespace DL
open PySem PySem.Spec PyProof.Rows L2

theorem bt_len : bootBuiltins "len" = some (.builtin "len") := by decide +kernel
theorem bt_int : bootBuiltins "int" = some (.type "int") := by decide +kernel
theorem bt_bool : bootBuiltins "bool" = some (.type "bool") := by decide +kernel
theorem bt_str : bootBuiltins "str" = some (.type "str") := by decide +kernel
theorem bt_list : bootBuiltins "list" = some (.type "list") := by decide +kernel
theorem bt_dict : bootBuiltins "dict" = some (.type "dict") := by decide +kernel
theorem bt_tuple : bootBuiltins "tuple" = some (.type "tuple") := by decide +kernel
theorem bt_isinstance : bootBuiltins "isinstance" = some (.builtin "isinstance") := by decide +kernel
theorem bt_max : bootBuiltins "max" = some (.builtin "max") := by decide +kernel
theorem bt_min : bootBuiltins "min" = some (.builtin "min") := by decide +kernel
theorem bt_sum : bootBuiltins "sum" = some (.builtin "sum") := by decide +kernel
theorem bt_all : bootBuiltins "all" = some (.builtin "all") := by decide +kernel
theorem bt_any : bootBuiltins "any" = some (.builtin "any") := by decide +kernel
theorem bt_sorted : bootBuiltins "sorted" = some (.builtin "sorted") := by decide +kernel

/-! ## x in a list of data -/
theorem dpall {K : PySem.W.Frag} {B : Hp} {n : Nat} : ∀ {ds : List D}, (∀ d ∈ ds, Shal n d) → ∀ {vs : List V}, DtA K B vs ds → DpAll K B vs (pyds ds)
  | [], _, _, .nil => .nil
  | d :: ds, h, _, .cons a b => .cons ((shal_ok (h d (List.mem_cons_self ..))).2.2 _ a) (dpall (fun x hx => h x (List.mem_cons_of_mem _ hx)) b)
def wInT (f : Bool → Bool) : DR := fun x y cs Φ => ∃ ds, lq cs y = some ds ∧ Shal 58 x ∧ (∀ d ∈ ds, Shal 58 d) ∧ Φ (.bl (f (ds.any fun d => deq d x))) cs
theorem simInT' {K : PySem.W.Frag} {f : Bool → Bool} : SimR K (fun x y H Q => ∃ d ds, Dp K H x d ∧ Dp K H y (.list ds) ∧ SeqAt.shaped d = true ∧ SeqAt.shaped (.list ds) = true ∧ Q (.bl (f (ds.any fun z => PyData.eqv z d))) H) (wInT f) := fun x y d e H cs F Φ Q ⟨ds, e1, h1, h2, q⟩ r t1 t2 k => by
  obtain ⟨a, vs, rfl, sa, ta⟩ := lq_ok r t2 e1
  refine ⟨pyd d, pyds ds, (shal_ok h1).2.2 x (t1.mono hid_sub), .lst sa (dpall h2 (ta.mono hid_sub)), shal_shaped K h1 (by decide), shal_shaped (d := .lst ds) K (shal_lst h2) (by decide), ?_⟩
  rw [any_py h1 h2]
  exact k _ cs _ H q r .refl (.bl _)
theorem op_inTA {X : Cx} {k : Nat} (hr : Room k X.A) : OpR X (compareOp .In) (L2.rInD X.K) := L2.op_inD (by have := hr.un; omega)
theorem op_inTAn {X : Cx} {k : Nat} (hr : Room k X.A) : OpR X (compareOp .NotIn) (L2.rNotInD X.K) := L2.op_notInD (by have := hr.un; omega)
theorem simInT {K : PySem.W.Frag} {neg : Bool} : SimR K (if neg then L2.rNotInD K else L2.rInD K) (wInT fun b => if neg then !b else b) := by
  cases neg with
  | true => exact simInT' (f := fun b => !b)
  | false => exact simInT' (f := fun b => b)

/-! ## dict displays -/
def dPs : List (DE × DE) → EnvD → Cs → (List (D × D) → Cs → Prop) → EK → Prop
  | [], _, cs, Φ, _ => Φ [] cs
  | (wk, wv) :: r, ρ, cs, Φ, Ψ => wk ρ cs (fun x cs1 => wv ρ cs1 (fun y cs2 => dPs r ρ cs2 (fun ps cs3 => Φ ((x, y) :: ps) cs3) Ψ) Ψ) Ψ
def mergeD (kvs more : List (Key × D)) : List (Key × D) := more.foldl (fun acc kv => pK acc kv.1 kv.2) kvs
def dDisp (ws : List (DE × DE)) : DE := fun ρ cs Φ Ψ => ∀ p, cs p = none → dPs ws ρ (setc cs p (.dict [])) (fun ps cs2 => cs2 p = some (.dict []) ∧ ∃ kvs : List (Key × D), ps.map (fun q => (dkey q.1, q.2)) = kvs.map (fun q => (some q.1, q.2)) ∧ kvs.length ≤ 15 ∧
  Φ (.cell p) (setc cs2 p (.dict (mergeD [] kvs)))) Ψ
def SimPs (K : PySem.W.Frag) (W : WX) (trs : List (TE × TE)) (ws : List (DE × DE)) : Prop :=
  ∀ ρ cs Φ Ψ σ H F (Q : List (V × V) → Hp → Prop), dPs ws ρ cs Φ Ψ → RS K σ H ρ cs F → EL K W Ψ H cs F →
    (∀ ps cs' qs H', Φ ps cs' → RS K σ H' ρ cs' F → Stp H cs H' cs' F → Paired (fun q p => Dt K (hid H' cs' F) q.1 p.1 ∧ Dt K (hid H' cs' F) q.2 p.2) qs ps → Q qs H') → tPairs trs σ H Q
structure QPs (X : Cx) (W : WX) (pos : Pos) (ks : List (Option Expr)) (vs : List Expr) (trs : List (TE × TE)) (ws : List (DE × DE)) : Prop where
  pe : PPs X pos ks vs trs
  sim : SimPs X.K W trs ws
section
variable {X : Cx} {W : WX} {K : PySem.W.Frag} {pos : Pos} {k v : Expr} {ks : List (Option Expr)} {vs : List Expr} {tk tv : TE} {wk wv : DE} {trs : List (TE × TE)} {ws : List (DE × DE)}
theorem qps_nil : QPs X W pos [] [] [] [] := ⟨pps_nil, fun ρ cs Φ Ψ σ H F Q h R L k => k [] cs [] H h R .refl .nil⟩
theorem qps_cons (hk : QE X W k tk wk) (hv : QE X W v tv wv) (hr : QPs X W pos ks vs trs ws) : QPs X W pos (some k :: ks) (v :: vs) ((tk, tv) :: trs) ((wk, wv) :: ws) :=
  ⟨pps_cons hk.pe hv.pe hr.pe, fun ρ cs Φ Ψ σ H F Q h R L kk => by
    refine hk.sim ρ cs _ Ψ σ H F _ h R L fun x cs1 u H1 h1 R1 s1 t1 => ?_
    refine hv.sim ρ cs1 _ Ψ σ H1 F _ h1 R1 (L.step s1) fun y cs2 z H2 h2 R2' s2 t2 => ?_
    refine hr.sim ρ cs2 _ Ψ σ H2 F _ h2 R2' (L.step (s1.trans s2)) fun ps cs3 qs H3 h3 R3 s3 t3 => ?_
    exact kk _ cs3 _ H3 h3 R3 ((s1.trans s2).trans s3) (.cons ⟨t1.mono (s2.trans s3).base, t2.mono s3.base⟩ t3)⟩
theorem KvA.merge {B : Hp} {more : List (Key × V)} {more' : List (Key × D)} (h : KvA K B more more') : ∀ {ws : List (Key × V)} {kvs : List (Key × D)}, KvA K B ws kvs → KvA K B (mergeK ws more) (mergeD kvs more') := by
  induction h with
  | nil => exact fun q => q
  | @cons p q l m r _ ih =>
    intro ws kvs q2
    obtain ⟨e, hv⟩ := r
    show KvA K B (mergeK (L2.putK ws p.1 p.2) l) (mergeD (pK kvs q.1 q.2) m)
    rw [e]
    exact ih (q2.putK q.1 hv)
theorem keys_of {B : Hp} : ∀ {ps : List (D × D)} {qs : List (V × V)} {kvs : List (Key × D)}, Paired (fun q p => Dt K B q.1 p.1 ∧ Dt K B q.2 p.2) qs ps → ps.map (fun q => (dkey q.1, q.2)) = kvs.map (fun q => (some q.1, q.2)) →
    ∃ kws : List (Key × V), qs = kws.map (fun kv => (kV kv.1, kv.2)) ∧ KvA K B kws kvs
  | [], _, [], .nil, _ => ⟨[], rfl, .nil⟩
  | [], _, _ :: _, .nil, e => by simp at e
  | (d, e) :: ps, _, [], .cons _ _, h => by simp at h
  | (d, e) :: ps, _, (ky, e') :: kvs, .cons (a := (x, y)) r t, h => by
    simp only [List.map_cons, List.cons.injEq, Prod.mk.injEq] at h
    obtain ⟨⟨h1, h2⟩, h3⟩ := h
    obtain ⟨kws, e1, e2⟩ := keys_of t h3
    obtain ⟨r1, r2⟩ := r
    dsimp only at r1 r2
    refine ⟨(ky, y) :: kws, ?_, .cons ⟨rfl, h2 ▸ r2⟩ e2⟩
    rw [List.map_cons, ← e1, ← dkey_ok r1 h1]
theorem qe_disp (h : QPs X W pos ks vs trs ws) (hall : ks.all (·.isSome) = true) (hl : ks.length = vs.length) (h0 : ks ≠ []) (h15 : ks.length ≤ 15) : QE X W (.Dict ks vs pos) (tDisp trs) (dDisp ws) :=
  ⟨pe_disp h.pe hall hl h0 h15, fun ρ cs Φ Ψ σ H F Q hw R L kk p hp => by
    obtain ⟨r1, s1⟩ := R.r.newc (o := .dK []) (c := .dict []) hp ⟨[], upd_same, .nil⟩
    refine h.sim ρ _ _ Ψ σ _ F _ (hw p (R.r.fresh hp).1) (R.step r1 s1) (L.step s1) fun ps cs2 qs H2 h2 R2' s2 t2 => ?_
    obtain ⟨e1, kvs, e2, hl2, q⟩ := h2
    obtain ⟨ws2, h3, rel⟩ := R2'.r.c p _ e1
    cases rel
    obtain ⟨kws, e3, e4⟩ := keys_of t2 e2
    refine ⟨h3, kws, e3, by rw [e4.length]; exact hl2, ?_⟩
    obtain ⟨r3, s3⟩ := R2'.r.write (o := .dK (mergeK [] kws)) (c' := .dict (mergeD [] kvs)) e1 ⟨_, upd_same, e4.merge .nil⟩
    exact kk _ _ _ _ q (R2'.step r3 s3) ((s1.trans s2).trans s3) (.cell p)⟩
end

/-! ## len(set(ints)), distinct ones -/
def dLenSet (w : DE) : DE := fun ρ cs Φ Ψ => w ρ cs (fun d cs1 => ∃ (xs : List D) (ns : List Int), lq cs1 d = some xs ∧ xs = ns.map D.int ∧ ns.length ≤ 4000 ∧ ns.Nodup ∧ Φ (.int ns.length) cs1) Ψ
theorem qe_lenSet {X : Cx} {W : WX} {a : Expr} {ta : TE} {wa : DE} {p p2 q pos : Pos} (hc : X.calm = true) (hg : Gl X "len") (hm : X.mg "len" = none) (hg2 : Gl X "set") (hm2 : X.mg "set" = none) (ha : QE X W a ta wa)
    (na : starEach [a] X.env = (false, eval a X.env) :: starEach [] X.env := by rfl) : QE X W (.Call (.Name "len" p) [.Call (.Name "set" p2) [a] [] q] [] pos) (RZ.tLenSetI X.K ta) (dLenSet wa) :=
  ⟨RZ.pe_lenSetI hg hm hg2 hm2 ha.pe hc na, fun ρ cs Φ Ψ σ H F Q hw R L k => ha.sim ρ cs _ Ψ σ H F _ hw R L fun d cs1 v H1 ⟨xs, ns, e1, e2, h1, h2, q⟩ R1 s1 t1 => by
    obtain ⟨a, us, rfl, sa, ta⟩ := lq_ok R1.r t1 e1
    rw [e2] at ta
    have e := DtA.of_ints ta
    subst e
    exact ⟨a, ns, rfl, sa, h2, h1, k _ cs1 _ H1 q R1 s1 (.int _)⟩⟩

/-! ## sorted, another way -/
theorem paired_perm {α β : Type} {R : α → β → Prop} {vs us : List α} (h : us.Perm vs) : ∀ {ws : List β}, Paired R vs ws → ∃ ws', ws'.Perm ws ∧ Paired R us ws' := by
  induction h with
  | nil => intro ws r; exact ⟨ws, .refl _, r⟩
  | cons x _ ih =>
    intro ws r
    cases r with
    | cons a b =>
      obtain ⟨ws', p, q⟩ := ih b
      exact ⟨_, p.cons _, .cons a q⟩
  | swap x y l =>
    intro ws r
    cases r with
    | cons a b => cases b with
      | cons c d => exact ⟨_, .swap .., .cons c (.cons a d)⟩
  | trans _ _ ih1 ih2 =>
    intro ws r
    obtain ⟨w1, p1, q1⟩ := ih2 r
    obtain ⟨w2, p2, q2⟩ := ih1 q1
    exact ⟨w2, p2.trans p1, q2⟩
def tupI (ns : List Int) : D := .tup (ns.map D.int)
theorem paired_tup {K : PySem.W.Frag} {B : Hp} : ∀ {nss : List (List Int)} {vs : List V}, DtA K B vs (nss.map tupI) → Paired (fun v ns => Dt K B v (tupI ns)) vs nss
  | [], _, .nil => .nil
  | _ :: _, _, .cons a b => .cons a (paired_tup b)
theorem tup_paired {K : PySem.W.Frag} {B : Hp} : ∀ {nss : List (List Int)} {vs : List V}, Paired (fun v ns => Dt K B v (tupI ns)) vs nss → DtA K B vs (nss.map tupI)
  | [], _, .nil => .nil
  | _ :: _, _, .cons a b => .cons a (tup_paired b)
def wSortT (m : NewM) (d : Nat) (B : Int) : DC := fun ds cs Φ => match ds with
  | [x] => ∃ (xs : List D) (nss : List (List Int)), lq cs x = some xs ∧ xs = nss.map tupI ∧ nss.length < 64 ∧ (∀ ns ∈ nss, ns.length = d ∧ TS.Bd B ns) ∧ ∀ nss' : List (List Int), nss'.Perm nss → nss'.Pairwise (fun n m => TS.code B n ≤ TS.code B m) → m (nss'.map tupI) cs Φ
  | _ => False
theorem tupI_of {K : PySem.W.Frag} {H : Hp} {cs : Cs} {F : Hp} {v : V} {ns : List Int} (h : Dt K (hid H cs F) v (tupI ns)) : TupI K H v ns := by
  cases h with
  | tup sa ta => exact ⟨_, rfl, by rw [← DtA.of_ints ta]; exact same_t hid_sub sa⟩
theorem paired_left {α β : Type} {R : α → β → Prop} : ∀ {vs : List α} {ws : List β}, Paired R vs ws → ∀ v ∈ vs, ∃ w ∈ ws, R v w
  | _, _, .nil, v, h => by simp at h
  | _, _, .cons a b, v, h => by
    rcases List.mem_cons.mp h with rfl | h
    · exact ⟨_, List.mem_cons_self .., a⟩
    · obtain ⟨w, hw, q⟩ := paired_left b v h
      exact ⟨w, List.mem_cons_of_mem _ hw, q⟩
theorem paired_right {α β : Type} {R : α → β → Prop} : ∀ {vs : List α} {ws : List β}, Paired R vs ws → ∀ w ∈ ws, ∃ v ∈ vs, R v w
  | _, _, .nil, v, h => by simp at h
  | _, _, .cons a b, v, h => by
    rcases List.mem_cons.mp h with rfl | h
    · exact ⟨_, List.mem_cons_self .., a⟩
    · obtain ⟨w, hw, q⟩ := paired_right b v h
      exact ⟨w, List.mem_cons_of_mem _ hw, q⟩
theorem paired_pw {α β : Type} {R : α → β → Prop} {S : α → α → Prop} {T : β → β → Prop} (hst : ∀ a b c d, R a c → R b d → S a b → T c d) : ∀ {vs : List α} {ws : List β}, Paired R vs ws → vs.Pairwise S → ws.Pairwise T
  | _, _, .nil, _ => .nil
  | _, _, .cons a b, h => by
    obtain ⟨h1, h2⟩ := List.pairwise_cons.mp h
    refine List.pairwise_cons.mpr ⟨fun w hw => ?_, paired_pw hst b h2⟩
    obtain ⟨v, hv, q⟩ := paired_right b w hw
    exact hst _ _ _ _ a q (h1 v hv)
theorem simSortT {K : PySem.W.Frag} {m : NewM} (hm : NewOk m) {d : Nat} {B : Int} : SimC K (rSortU K d B) (wSortT m d B) := fun vs ds H cs F Φ Q h r t k => by
  match ds, vs, t, h with
  | [x], _, .cons t .nil, h =>
    obtain ⟨xs, nss, e1, e2, h64, hb, q⟩ := h
    obtain ⟨a, us, rfl, sa, ta⟩ := lq_ok r t e1
    rw [e2] at ta
    have pt := paired_tup ta
    refine ⟨a, us, rfl, sa, by rw [ta.length, List.length_map]; exact h64, fun v hv => ?_, fun ys p hy pw hp => ?_⟩
    · obtain ⟨ns, hns, tv⟩ := paired_left pt v hv
      exact ⟨ns, tupI_of tv, hb ns hns⟩
    · obtain ⟨nss', pm, pt'⟩ := paired_perm hy pt
      have pw2 := paired_pw (T := fun n m => TS.code B n ≤ TS.code B m) (fun a b c d ra rb s => s c d (tupI_of ra) (tupI_of rb)) pt' pw
      obtain ⟨z, cs', hz, r1, s1, q1⟩ := hm.new K H cs F _ _ p Φ (q nss' pm pw2) r (tup_paired pt') hp
      exact k z cs' _ _ hz r1 s1 q1
/-- sorted(xs, reverse=True), ints -/
def dSortRev (m : NewM) (w : DA) : DE := fun ρ cs Φ Ψ => w ρ cs (fun ds cs1 => match ds with
  | [d] => ∃ (xs : List D) (ns : List Int), lq cs1 d = some xs ∧ xs = ns.map D.int ∧ ∀ ns' : List Int, ns'.Perm ns → ns'.Pairwise (· ≥ ·) → m (ns'.map D.int) cs1 Φ
  | _ => False) Ψ
theorem qe_sortRev {X : Cx} {W : WX} {m : NewM} (hm : NewOk m) {p pos kp : Pos} {e : Expr} {ta : TA} {wa : DA} {j : Nat} {cp : Pos} (hg : Gl X "sorted") (hmg : X.mg "sorted" = none) (ha : QA X W [e] ta wa)
    (he : backTo pos (starEach [e] X.env) = (false, eval e X.env) :: backTo pos (starEach [] X.env) := by rfl) (hpl : (backTo pos (starEach [e] X.env)).any (·.1) = false := by rfl)
    (hall : (backToKw pos (keywordEach [⟨some "reverse", .Constant (.bool true) j cp, kp⟩] X.env)).all (·.1.isSome) = true := by rfl) (hnone : (backToKw pos (keywordEach [⟨some "reverse", .Constant (.bool true) j cp, kp⟩] X.env)).any (·.1.isNone) = false := by rfl)
    (hks : (backToKw pos (keywordEach [⟨some "reverse", .Constant (.bool true) j cp, kp⟩] X.env)).filterMap (·.1) = [Str.ofString "reverse"] := by rfl) :
    QE X W (.Call (.Name "sorted" p) [e] [⟨some "reverse", .Constant (.bool true) j cp, kp⟩] pos) (tCKw (rSortedKw X.K true [.bl true]) ta (tCons (tC (.bl true)) tNil)) (dSortRev m wa) :=
  ⟨pe_callBK cr_sortedRev hg hmg bt_sorted ha.pe (pk_cons pe_bl pk_nil) (by decide) (by decide) he hpl hall hnone hks, fun ρ cs Φ Ψ σ H F Q hw R L k => ha.sim ρ cs _ Ψ σ H F _ hw R L fun ds cs1 vs H1 q R1 s1 t1 => by
    match ds, vs, t1, q with
    | [d], _, .cons t .nil, q =>
      obtain ⟨xs, ns, e1, e2, q⟩ := q
      obtain ⟨a, us, rfl, sa, ta⟩ := lq_ok R1.r t e1
      rw [e2] at ta
      have e := DtA.of_ints ta
      subst e
      refine ⟨a, ns, rfl, rfl, sa, fun ns' p hp ho hh => ?_⟩
      obtain ⟨z, cs', hz, r2, s2, q2⟩ := hm.new X.K H1 cs1 F _ _ p Φ (q ns' hp ho) R1.r (DtA.map_int ns') hh
      exact k z cs' _ _ hz (R1.step r2 s2) (s1.trans s2) q2⟩
/-! ## sorted of pairs of ints, any length -/
theorem pair_raw {h : Heap} {v : Value} {ns : List Int} (x : TS.TupInts h v ns) (l : ns.length = 2) : Srt.IsPair h v (ns.getD 0 0) (ns.getD 1 0) := by
  obtain ⟨a, xs, rfl, ⟨o, ho, hc, n, hd⟩, i⟩ := x
  match ns, l with
  | [i1, i2], _ =>
    have e : ∃ t u, xs = #[.int i1 t, .int i2 u] := by
      obtain ⟨xs⟩ := xs
      cases i with
      | cons _ t i =>
        cases i with
        | cons _ u i =>
          cases i
          exact ⟨t, u, rfl⟩
    obtain ⟨t, u, rfl⟩ := e
    exact ⟨a, o, t, u, n, rfl, ho, hc, hd⟩
def rSortPU (K : PySem.W.Frag) (B : Int) : List V → Hp → VK → Prop := fun vs H Q => ∃ (a : Addr) (xs : List V), vs = [V.ref a] ∧ SqL K H a xs ∧ (∀ x ∈ xs, ∃ ns, TupI K H x ns ∧ ns.length = 2 ∧ TS.Bd B ns) ∧
  ∀ (ys : List V) (p : Addr), ys.Perm xs → ys.Pairwise (fun x y => ∀ n m, TupI K H x n → TupI K H y m → TS.code B n ≤ TS.code B m) → H p = none → Q (.ref p) (upd H p (.lst ys))
theorem code_pair {B i j k l : Int} (h : ¬ (k < i ∨ (k = i ∧ l < j))) (a : TS.Bd B [i, j]) (b : TS.Bd B [k, l]) : TS.code B [i, j] ≤ TS.code B [k, l] := by
  have j0 := a j (by simp)
  have l0 := b l (by simp)
  show i * B ^ 1 + (j * B ^ 0 + 0) ≤ k * B ^ 1 + (l * B ^ 0 + 0)
  simp only [Int.pow_zero, Int.mul_one, Int.add_zero, Int.pow_succ, Int.one_mul]
  rcases Int.lt_or_le i k with q | q
  · have : (i + 1) * B ≤ k * B := Int.mul_le_mul_of_nonneg_right (by omega) (by omega)
    rw [Int.add_mul] at this
    omega
  · have e : k = i := by omega
    subst e
    omega
theorem cr_sortPU {X : Cx} {B : Int} : CallR X (.builtin "sorted") (rSortPU X.K B) := by
  intro pins s σ H vs us Q I r h
  obtain ⟨a, xs, rfl, hs, hx, q⟩ := h
  obtain ⟨its, rv, hl, hz⟩ := I.list hs
  rw [Vals.ref1 r]
  obtain ⟨e1, e2⟩ := bkV_refs rv fun x m => by
    obtain ⟨ns, ⟨t, e, _⟩, _⟩ := hx x m
    exact ⟨t, e⟩
  have raw : ∀ v ∈ its, ∃ ns, TS.TupInts s.heap v ns ∧ ns.length = 2 ∧ TS.Bd B ns := fun v hv => by
    obtain ⟨t, rfl⟩ := e2 v hv
    have hm : V.ref t ∈ xs := by rw [e1]; exact List.mem_map.mpr ⟨_, hv, rfl⟩
    obtain ⟨ns, ⟨t', e, ht⟩, hn, hb⟩ := hx _ hm
    cases e
    exact ⟨ns, tupI_raw I ht, hn, hb⟩
  refine SrtO.sorted_pairsO (k := fun u => ((TS.intsOf s.heap u).getD 0 0, (TS.intsOf s.heap u).getD 1 0)) hl.isList (by rw [← rv.length]; exact hz) (fun v hv => ?_) fun h' d out h1 h2 kp hd hn => ?_
  · obtain ⟨ns, t, l, _⟩ := raw v hv
    have := pair_raw t l
    rw [← t.ints] at this
    exact this
  · have h3 : ∀ u ∈ out, ∃ a, u = Value.ref a := fun u hu => e2 u (h2.perm.mem_iff.mp hu)
    obtain ⟨n, hn⟩ := hn
    have hp : (out.map bkV).Perm xs := by rw [e1]; exact h2.perm.map bkV
    have hlen : (out.map bkV).length ≤ sizeLine := by rw [hp.length_eq]; exact hz
    refine ⟨.ref d, upd H d (.lst (out.map bkV)), I.laid (t' := s.toks) kp hd ⟨hlen, out, n, bkV_vals h3, hn⟩, rfl, q _ d hp ?_ (I.hok.fresh hd)⟩
    rw [List.pairwise_map]
    have h1' : out.Pairwise fun u v => SrtO.lexB ((TS.intsOf s.heap v).getD 0 0, (TS.intsOf s.heap v).getD 1 0) ((TS.intsOf s.heap u).getD 0 0, (TS.intsOf s.heap u).getD 1 0) = false := h1
    refine List.Pairwise.imp_of_mem (fun {u v} hu hv huv n m hn hm => ?_) h1'
    obtain ⟨ns, tu, lu, bu⟩ := raw u (h2.perm.mem_iff.mp hu)
    obtain ⟨ms, tv, lv, bv⟩ := raw v (h2.perm.mem_iff.mp hv)
    obtain ⟨t, et, ht⟩ := hn
    obtain ⟨t', et', ht'⟩ := hm
    have eu := bkV_ref et
    have ev := bkV_ref et'
    have i1 : n = ns := by rw [← tu.ints, eu]; exact ((tupI_raw I ht).ints).symm
    have i2 : m = ms := by rw [← tv.ints, ev]; exact ((tupI_raw I ht').ints).symm
    subst i1
    subst i2
    rw [tu.ints, tv.ints] at huv
    have z := SrtO.lexB_no.mp huv
    match n, lu, m, lv, bu, bv, z with
    | [i, j], _, [k, l], _, bu, bv, z => exact code_pair z bu bv
def wSortP (m : NewM) (B : Int) : DC := fun ds cs Φ => match ds with
  | [x] => ∃ (xs : List D) (nss : List (List Int)), lq cs x = some xs ∧ xs = nss.map tupI ∧ (∀ ns ∈ nss, ns.length = 2 ∧ TS.Bd B ns) ∧ ∀ nss' : List (List Int), nss'.Perm nss → nss'.Pairwise (fun n m => TS.code B n ≤ TS.code B m) → m (nss'.map tupI) cs Φ
  | _ => False
theorem simSortP {K : PySem.W.Frag} {m : NewM} (hm : NewOk m) {B : Int} : SimC K (rSortPU K B) (wSortP m B) := fun vs ds H cs F Φ Q h r t k => by
  match ds, vs, t, h with
  | [x], _, .cons t .nil, h =>
    obtain ⟨xs, nss, e1, e2, hb, q⟩ := h
    obtain ⟨a, us, rfl, sa, ta⟩ := lq_ok r t e1
    rw [e2] at ta
    have pt := paired_tup ta
    refine ⟨a, us, rfl, sa, fun v hv => ?_, fun ys p hy pw hp => ?_⟩
    · obtain ⟨ns, hns, tv⟩ := paired_left pt v hv
      exact ⟨ns, tupI_of tv, hb ns hns⟩
    · obtain ⟨nss', pm, pt'⟩ := paired_perm hy pt
      have pw2 := paired_pw (T := fun n m => TS.code B n ≤ TS.code B m) (fun a b c d ra rb s => s c d (tupI_of ra) (tupI_of rb)) pt' pw
      obtain ⟨z, cs', hz, r1, s1, q1⟩ := hm.new K H cs F _ _ p Φ (q nss' pm pw2) r (tup_paired pt') hp
      exact k z cs' _ _ hz r1 s1 q1
end DL
namespace DL
open PySem PySem.Spec PyProof.Rows L2

/-! ## sorted(set(xs)), xs a list of ints -/
section
variable {P : Program} {w : World} {A : Around} {E : Value → Shared → Prop} {s : Shared}
abbrev newSet (w : World) : Obj := { cls := .type "set", dict := none, data := .set #[] 0 (.fresh 0 0 (!w.params.followText "set-order")) }
set_option maxHeartbeats 3200000 in
theorem set_of_list {l : Addr} {items : Array Value} (ns : List Int) {Q : Value → Shared → Prop} (hh : A.handled = none) (hl : s.heap.IsList l items) (hi : IntsAre items.toList ns) (hb : ns.length + 1 < scanBound)
    (h : ∀ (h' : Heap) (tk c : Nat), SetR w h' s.heap.objs.size (fun j => decide (j ∈ ns)) c → c ≤ ns.length → (∀ b o, s.heap.get? b = some o → h'.get? b = some o) → Q (.ref s.heap.objs.size) { s with heap := h', toks := tk }) :
    wpAny (model P w) A (call (.type "set") [.ref l]) Q E s := by
  have hz : items.size = ns.length := by
    have q := IntsAre.length hi
    rwa [Array.length_toList] at q
  obtain ⟨c, tl, hmro⟩ := F.called_set.mro
  have hmade := F.called_set.made
  have hsub := F.called_set.sub
  refine wpAny_call (codeAny_of_tree ?_)
  show wpAny _ _ (callAny (.type "set") _) _ _ _
  refine wpAny_pure ⟨Code.quiet_builtin _ (by decide +kernel), codeAny_builtin F.entry_type_call ?_⟩
  rw [Around.under_plain (weight_type_call_type "set" [.ref l] []) rfl]
  have h1 := F.called_set.notType
  have h2 := F.called_set.canCreate
  have hct := F.typeCall_set_1 (.ref l)
  repeat (any_goals (first | assumption | wp_step))
  refine codeAny_mono (code_set_led1 (.ref l) (E := E) (Q₁ := fun obj s₁ => obj = .ref s.heap.objs.size ∧ s₁ = { s with heap := s.heap.push (newSet w) }) ⟨rfl, rfl⟩) fun r s₁ hr => ?_
  cases r with
  | error e => exact hr
  | ok fl =>
    cases fl with
    | ret obj =>
      obtain ⟨rfl, rfl⟩ := hr
      have hS : (s.heap.push (newSet w)).get? s.heap.objs.size = some (newSet w) := Heap.get?_push_size _ rfl
      have hT : Shared.TypeIs { s with heap := s.heap.push (newSet w) } (.ref s.heap.objs.size) "set" := ⟨_, hS, rfl⟩
      have hli := F.called_set.init.lookup
      have hbi := F.called_set.init.bind (.ref s.heap.objs.size)
      repeat (any_goals (first | assumption | wp_step))
      refine codeAny_mono (codeAny_call_builtin (R := wants (fun r s₂ => r = .none ∧ ∃ h' tk c, s₂ = { s with heap := h', toks := tk } ∧ SetR w h' s.heap.objs.size (fun j => decide (j ∈ ns)) c ∧ c ≤ ns.length ∧
          (∀ b o, s.heap.get? b = some o → h'.get? b = some o)) E) F.called_set.init.plain F.entry_set_init (check_set_init_1 hT ?_)) fun r₂ s₂ hr₂ => ?_
      · obtain ⟨⟨_, od, _, os⟩, hol, hcl, nl, hdl⟩ := hl
        simp only at hcl hdl
        subst hcl hdl
        have hol' : (s.heap.push (newSet w)).get? l = some { cls := .type "list", dict := od, data := .seq items nl, slots := os } := Heap.get?_push_of_some _ hol
        have hsls := F.sub_list_set
        have hslf := F.sub_list_frozenset
        have hne : (Value.type "list" == Value.type "dict") = false := by decide
        have hl1 : (s.heap.push (newSet w)).IsList l items := ⟨_, hol', rfl, nl, rfl⟩
        unfold Builtin.«set.__init__» noKeywords Builtin.Frozenset.updateFrom
        generalize hPI : pyIter = PI
        wp_walk
        subst hPI
        refine wpAny_pyIter_list hl1 ?_
        refine wpAny_bind (wpAny_runValue ?_)
        have hlS : l < s.heap.objs.size := Heap.lt_size hol
        have hh3 : A.in1.in1.in1.handled = none := by simp [hh]
        have hsz : (s.heap.push (newSet w)).objs.size = s.heap.objs.size + 1 := Heap.size_push ..
        have hneI : l ≠ (s.heap.push (newSet w)).objs.size := by
          rw [hsz]; exact Nat.ne_of_lt (Nat.lt_succ_of_lt hlS)
        have hSf : s.heap.objs.size ∉ [(s.heap.push (newSet w)).objs.size, l] := by
          rw [hsz]; simp only [List.mem_cons, List.not_mem_nil, or_false, not_or]
          exact ⟨Nat.ne_of_lt (Nat.lt_succ_self _), Nat.ne_of_gt hlS⟩
        have hval : ∀ (i : Nat) (v : Value), items[i]? = some v → ∃ k t, ns[i]? = some k ∧ v = .int k t := fun i v hv => by
          have hi' : i < ns.length := by rw [← hz]; exact (Array.getElem?_eq_some_iff.mp hv).1
          obtain ⟨t, e⟩ := IntsAre.int_at hi i v (by rw [Array.getElem?_toList]; exact hv)
          refine ⟨ns[i], t, List.getElem?_eq_getElem hi', ?_⟩
          rw [e, List.getD_eq_getElem?_getD, List.getElem?_eq_getElem hi'] <;> rfl
        refine set_update_ints ((Walks.list hh3 _ l hneI items).toS) s.heap.objs.size hSf ns hz hb hval (items.size - 0) 0 _ (by omega) (Nat.zero_le _) ⟨⟨_, Heap.get?_push_size _ rfl, rfl, rfl⟩, (hl1.push _)⟩
          ⟨0, Nat.le_refl 0, setR_new_at (Heap.get?_push_of_some _ hS)⟩ ?_
        intro s' c' hm hc' hS'
        obtain ⟨h', g2, d', tk', os'⟩ := s'
        obtain rfl : g2 = s.gens := hm.gens
        obtain rfl : d' = s.drawn := hm.drawn
        obtain rfl : os' = s.os := hm.os
        show wpAny _ _ _ _ _ _
        refine wpAny_pure ?_
        show wpAny _ _ (ret Value.none) _ _ _
        rw [hz] at hc'
        refine wpAny_pure ⟨rfl, h', tk', c', rfl, hS', hc', fun b o e => ?_⟩
        have hb0 : b < s.heap.objs.size := Heap.lt_size e
        exact hm.heap b o (by rw [hsz]; simp only [List.mem_cons, List.not_mem_nil, or_false, not_or]; exact ⟨Nat.ne_of_lt hb0, Nat.ne_of_lt (Nat.lt_succ_of_lt hb0)⟩) (Heap.get?_push_of_some _ (Heap.get?_push_of_some _ e))
      · cases r₂ with
        | error e => exact hr₂
        | ok fl₂ =>
          cases fl₂ with
          | ret r =>
            obtain ⟨rfl, h', tk, c', rfl, hS', hc', hk'⟩ := hr₂
            repeat (any_goals (first | assumption | wp_step))
            exact h _ _ _ hS' hc' hk'
          | _ => exact hr₂.elim
    | _ => exact hr.elim
end
section
variable {X : Cx}
def tSortSet (K : PySem.W.Frag) (ta : TE) : TE := fun σ H Q => ta σ H fun x H1 => ∃ (l : Addr) (ns : List Int), x = V.ref l ∧ SqL K H1 l (ns.map V.int) ∧ ns.length < 63 ∧
  ∀ (ks : List Int) (p : Addr), ks.Pairwise (· < ·) → (∀ k : Int, k ∈ ks ↔ k ∈ ns) → H1 p = none → Q (.ref p) (upd H1 p (.lst (ks.map V.int)))
theorem pe_sortSet {a : Expr} {ta : TE} {p p2 q pos : Pos} (hc : X.calm = true) (hg : Gl X "sorted") (hm : X.mg "sorted" = none) (hg2 : Gl X "set") (hm2 : X.mg "set" = none) (ha : PE X a ta)
    (na : starEach [a] X.env = (false, eval a X.env) :: starEach [] X.env := by rfl) : PE X (.Call (.Name "sorted" p) [.Call (.Name "set" p2) [a] [] q] [] pos) (tSortSet X.K ta) := by
  refine ⟨fun pins s σ H Q I h => ?_⟩
  refine Call_ (ld_blt I hg hm bt_sorted ?_)
  refine PyProof.Rows.callWith_builtin1 (PyProof.Rows.args_cons ?_ rfl) rfl rfl
  refine Call_ (ld_blt I hg2 hm2 PyProof.Rows.boot_set ?_)
  refine PyProof.Rows.callWith_type1 (PyProof.Rows.args_cons (thn (ha.run pins s σ H _ I h) fun v s1 ⟨x, H1, I1, r1, q1⟩ => PyProof.Rows.args_nil ?_) na) na rfl
  obtain ⟨l, ns, rfl, hq, h63, q1⟩ := q1
  cases r1
  obtain ⟨its, r, pl, hz⟩ := I1.list hq
  refine set_of_list ns (I1.ok.hd hc) pl.isList (by simpa using r.ints) (by unfold scanBound; omega) fun h' tk c hS hc' hk => ?_
  refine PyProof.Rows.args_nil ?_
  have I2 : Inv X pins σ H1 { s1 with heap := h', toks := tk } := I1.kept fun b o e => hk b o e
  refine sorted_set hS (I2.ok.hd hc) (by omega) fun s' p out c2 ks k g o hp hgp hi hs hm hl => ?_
  have hlen : (ks.map V.int).length ≤ sizeLine := by rw [List.length_map, hl, sizeLine_eq]; omega
  have hn : H1 p = none := I2.hok.fresh hp
  have J : Inv X pins σ (upd H1 p (.lst (ks.map V.int))) { s1 with heap := s'.heap, gens := s'.gens, drawn := s'.drawn, toks := s'.toks } :=
    Inv.call (s := { s1 with heap := h', toks := tk }) (ch := []) I2 (Un.laid (h := h') k hp hn) (I2.hok.laid k hp ⟨hlen, out.toList, c2, vals_of_ints hi, hgp⟩) (by rw [g]; exact I2.bare) (fun _ z => nomatch z)
  have e : s' = { s1 with heap := s'.heap, gens := s'.gens, drawn := s'.drawn, toks := s'.toks } := by
    cases s'
    cases s1
    cases o
    rfl
  rw [e]
  exact ⟨.ref p, _, J, rfl, q1 ks p hs (fun k => (hm k).trans (by simp)) hn⟩
end
def dSortSet (m : NewM) (w : DE) : DE := fun ρ cs Φ Ψ => w ρ cs (fun d cs1 => ∃ (xs : List D) (ns : List Int), lq cs1 d = some xs ∧ xs = ns.map D.int ∧ ns.length < 63 ∧ ∀ ks : List Int, ks.Pairwise (· < ·) → (∀ k : Int, k ∈ ks ↔ k ∈ ns) → m (ks.map D.int) cs1 Φ) Ψ
theorem qe_sortSet {X : Cx} {W : WX} {m : NewM} (hmn : NewOk m) {a : Expr} {ta : TE} {wa : DE} {p p2 q pos : Pos} (hc : X.calm = true) (hg : Gl X "sorted") (hm : X.mg "sorted" = none) (hg2 : Gl X "set") (hm2 : X.mg "set" = none) (ha : QE X W a ta wa)
    (na : starEach [a] X.env = (false, eval a X.env) :: starEach [] X.env := by rfl) : QE X W (.Call (.Name "sorted" p) [.Call (.Name "set" p2) [a] [] q] [] pos) (tSortSet X.K ta) (dSortSet m wa) :=
  ⟨pe_sortSet hc hg hm hg2 hm2 ha.pe na, fun ρ cs Φ Ψ σ H F Q hw R L k => ha.sim ρ cs _ Ψ σ H F _ hw R L fun d cs1 v H1 ⟨xs, ns, e1, e2, h1, q⟩ R1 s1 t1 => by
    obtain ⟨a, us, rfl, sa, ta⟩ := lq_ok R1.r t1 e1
    rw [e2] at ta
    have e := DtA.of_ints ta
    subst e
    refine ⟨a, ns, rfl, sa, h1, fun ks p h2 h3 hh => ?_⟩
    obtain ⟨z, cs', hz, r2, s2, q2⟩ := hmn.new X.K H1 cs1 F _ _ p Φ (q ks h2 h3) R1.r (DtA.map_int ks) hh
    exact k z cs' _ _ hz (R1.step r2 s2) (s1.trans s2) q2⟩
end DL
namespace DL
open PySem PySem.Spec PyProof.Rows L2

/-! ## the rules with the written part named -/
section
variable {X : Cx} {W : WX} {K : PySem.W.Frag} {a b c e o : Expr} {es : List Expr} {ta tb tc te to : TE} {wa wb wc we wo : DE} {r r' : R2} {w w' : DR} {pos apos p cpos : Pos} {ts : TA} {ws : DA} {m : NewM}
theorem op_addK (hK : X.K = K) : OpR X (binaryOp .Add) (rAddAll K) := hK ▸ op_addAll
theorem op_eqK (hK : X.K = K) (hu : X.A.units + 64 < cLine) : OpR X (compareOp .Eq) (rEqAll K) := hK ▸ op_eqAll hu
theorem op_neK (hK : X.K = K) (hu : X.A.units + 64 < cLine) : OpR X (compareOp .NotEq) (rNeAll K) := hK ▸ op_neAll hu
theorem op_inK (hK : X.K = K) (hu : X.A.units + 1 < cLine) : OpR X (compareOp .In) (rInAll K false) := hK ▸ op_inAll hu
theorem op_notInK (hK : X.K = K) (hu : X.A.units + 1 < cLine) : OpR X (compareOp .NotIn) (rInAll K true) := hK ▸ op_notInAll hu
theorem op_inTK (hK : X.K = K) {k : Nat} (hr : Room k X.A) : OpR X (compareOp .In) (if false then L2.rNotInD K else L2.rInD K) := hK ▸ op_inTA hr
theorem op_notInTK (hK : X.K = K) {k : Nat} (hr : Room k X.A) : OpR X (compareOp .NotIn) (if true then L2.rNotInD K else L2.rInD K) := hK ▸ op_inTAn hr
theorem ix_allK (hK : X.K = K) (hu : X.A.units + 1 < cLine) : IxR X (rIxAll K) := hK ▸ ix_all hu
theorem qe_opK (hK : X.K = K) {op : Operator} (ho : OpR X (binaryOp op) r) (hr : SimR K r w) (ha : QE X W a ta wa) (hb : QE X W b tb wb) : QE X W (.BinOp a op b pos) (tOp r ta tb) (dOp w wa wb) := by subst hK; exact qe_op ho hr ha hb
theorem qe_cmpK (hK : X.K = K) {op : CmpOp} (ho : OpR X (compareOp op) r) (hr : SimR K r w) (ha : QE X W a ta wa) (hb : QE X W b tb wb) (hm : behindInMarks op b = false) : QE X W (.Compare a [op] [b] pos) (tOp r ta tb) (dOp w wa wb) := by subst hK; exact qe_cmp ho hr ha hb hm
theorem qt_cmpK (hK : X.K = K) {op : CmpOp} (ho : OpR X (compareOp op) r) (hr : SimR K r w) (ha : QE X W a ta wa) (hb : QE X W b tb wb) (hm : behindInMarks op b = false) : QT X W (.Compare a [op] [b] pos) (tTest (tOp r ta tb)) (dB (dOp w wa wb)) := by subst hK; exact qt_cmp ho hr ha hb hm
theorem qe_chainK (hK : X.K = K) {op op' : CmpOp} (ho : OpR X (compareOp op) r) (hr : SimR K r w) (ho' : OpR X (compareOp op') r') (hr' : SimR K r' w') (ha : QE X W a ta wa) (hb : QE X W b tb wb) (hc : QE X W c tc wc)
    (hm : lastMarks [op, op'] [b, c] = false := by with_unfolding_all rfl) : QE X W (.Compare a [op, op'] [b, c] pos) (tChain r r' ta tb tc) (dChain w w' wa wb wc) := by subst hK; exact qe_chain ho hr ho' hr' ha hb hc hm
theorem qt_chainK (hK : X.K = K) {op op' : CmpOp} (ho : OpR X (compareOp op) r) (hr : SimR K r w) (ho' : OpR X (compareOp op') r') (hr' : SimR K r' w') (ha : QE X W a ta wa) (hb : QE X W b tb wb) (hc : QE X W c tc wc)
    (hm : lastMarks [op, op'] [b, c] = false := by with_unfolding_all rfl) : QT X W (.Compare a [op, op'] [b, c] pos) (tTest (tChain r r' ta tb tc)) (dB (dChain w w' wa wb wc)) := by subst hK; exact qt_chain ho hr ho' hr' ha hb hc hm
theorem qe_ixK (hK : X.K = K) (hu : X.A.units + 1 < cLine) (ha : QE X W a ta wa) (hb : QE X W b tb wb) (hs : PlainIx b) : QE X W (.Subscript a b pos) (tOp (rIxAll K) ta tb) (dOp wIxA wa wb) := by subst hK; exact qe_ix (ix_all hu) simIxA ha hb hs
theorem qe_sliceK (hK : X.K = K) {lo hi : Option Expr} {tl th : TO} {wl wh : DO} {p2 : Pos} (hm : NewOk m) (he : QE X W e te we) (hl : QO X W lo tl wl) (hu : QO X W hi th wh) : QE X W (.Subscript e (.Slice lo hi none p2) pos) (tSl (rSlAll K) te tl th) (dSl m we wl wh) := by
  subst hK; exact qe_slice sl_all (simSl hm) he hl hu
theorem qe_fldK (hK : X.K = K) {C : Addr} {f : Str} (hc : Cls K C) (n : NoAttr K C f) (h : QE X W o to wo) (hb : attributeBase o f X.env (eval o X.env) = eval o X.env := by rfl) : QE X W (.Attribute o f pos) (tFld K to f) (dFld C f wo) := by subst hK; exact qe_fld hc n h hb
theorem qt_truK (hK : X.K = K) (ha : QE X W a ta wa) (he : ∀ whole, isTrue a X.env whole = (do let v ← whole; standAt a.pos; holding [v] (truthy v))) : QT X W a (fun σ H Q => ta σ H fun x H' => ∃ k, TruV K x H' k ∧ Q k H') (dTru wa) := by subst hK; exact qt_tru ha he
theorem qg_tupK (hK : X.K = K) {k n : Nat} {gs : TGs} {wgs : DGs} (hc : X.calm = true) (h : QGs X W es gs wgs) (hn : (assignEach es X.env).length = n := by rfl) (hst : (assignEach es X.env).findIdx? (·.1) = none := by rfl) : QG X W (.Tuple es k pos) (gSeq K n gs) (dgTup n wgs) := by
  subst hK; exact qg_tup hc h hn hst
theorem qe_callDK (hK : X.K = K) {Pf : DSp} {k : Nat} {ps : List Str} {x : Str} (h : DefOk X.prog X.w X.K X.mg X.base k x ps Pf) (hr : Room k X.A) (tk : Takes X W) (hg : Gl X x) (ha : QA X W (e :: es) ts ws)
    (hdb : (x == ("__debug__" : Str)) = false := by decide) (he : starEach (e :: es) X.env = (false, eval e X.env) :: starEach es X.env := by rfl) (hpl : (backTo pos (starEach es X.env)).any (·.1) = false := by rfl) :
    QE X W (.Call (.Name x p) (e :: es) [] pos) (tCallS (spD K Pf) (WE W) ts) (dCall Pf ws) := by subst hK; exact qe_callD h hr tk hg ha hdb he hpl
theorem qe_methDK (hK : X.K = K) {Pf : DSp} {k : Nat} {ps : List Str} {C : Addr} {mm : Str} {pl : Sem Bool} (ho : QE X W o to wo) (c : Cls K C) (h : MethOk X.prog X.w X.K X.mg X.base k C mm ps Pf) (hr : Room k X.A) (tk : Takes X W) (ha : QA X W (e :: es) ts ws)
    (hst : starEach (e :: es) X.env = (false, eval e X.env) :: starEach es X.env := by rfl) (hpl : (backTo pos (starEach es X.env)).any (·.1) = false := by rfl)
    (ht : eval (.Call (.Attribute o mm apos) (e :: es) [] pos) X.env = (do
      let ov ← eval o X.env
      standAt apos.atName
      let (f, first) ← holding [ov] (getMethod ov mm pl)
      callWith pos f first (backTo pos (starEach (e :: es) X.env)) (backToKw pos (keywordEach [] X.env))) := by rfl) :
    QE X W (.Call (.Attribute o mm apos) (e :: es) [] pos) (tMethS C mm (spD K Pf) (WE W) to ts) (dMeth C mm Pf wo ws) := by subst hK; exact qe_methD ho c h hr tk ha hst hpl ht
theorem qe_methD0K (hK : X.K = K) {Pf : DSp} {k : Nat} {ps : List Str} {C : Addr} {mm : Str} {pl : Sem Bool} (ho : QE X W o to wo) (c : Cls K C) (h : MethOk X.prog X.w X.K X.mg X.base k C mm ps Pf) (hr : Room k X.A) (tk : Takes X W)
    (ht : eval (.Call (.Attribute o mm apos) [] [] pos) X.env = (do
      let ov ← eval o X.env
      standAt apos.atName
      let (f, first) ← holding [ov] (getMethod ov mm pl)
      callWith pos f first (backTo pos (starEach [] X.env)) (backToKw pos (keywordEach [] X.env))) := by rfl) :
    QE X W (.Call (.Attribute o mm apos) [] [] pos) (tMethS C mm (spD K Pf) (WE W) to tNil) (dMeth C mm Pf wo dNil) := by subst hK; exact qe_methD0 ho c h hr tk ht
theorem qe_callBK (hK : X.K = K) {x : Str} {id : String} {rc : List V → Hp → VK → Prop} {wc : DC} (hc : CallR X (.builtin id) rc) (hs : SimC K rc wc) (hg : Gl X x) (hm : X.mg x = none) (hv : bootBuiltins x = some (.builtin id)) (ha : QA X W (e :: es) ts ws) (hn : x ≠ "__name__" := by decide) (hdb : (x == ("__debug__" : Str)) = false := by decide)
    (he : starEach (e :: es) X.env = (false, eval e X.env) :: starEach es X.env := by rfl) (hpl : (backTo pos (starEach es X.env)).any (·.1) = false := by rfl) : QE X W (.Call (.Name x p) (e :: es) [] pos) (tCB rc ts) (dCB wc ws) := by
  subst hK; exact qe_callB hc hs hg hm hv ha hn hdb he hpl
theorem qe_callTyK (hK : X.K = K) {x : Str} {T : String} {rc : List V → Hp → VK → Prop} {wc : DC} (hc : CallR X (.type T) rc) (hs : SimC K rc wc) (hg : Gl X x) (hm : X.mg x = none) (hv : bootBuiltins x = some (.type T)) (ha : QA X W (e :: es) ts ws) (hn : x ≠ "__name__" := by decide) (hdb : (x == ("__debug__" : Str)) = false := by decide)
    (he : starEach (e :: es) X.env = (false, eval e X.env) :: starEach es X.env := by rfl) (hpl : (backTo pos (starEach es X.env)).any (·.1) = false := by rfl) : QE X W (.Call (.Name x p) (e :: es) [] pos) (tCB rc ts) (dCB wc ws) := by
  subst hK; exact qe_callTy hc hs hg hm hv ha hn hdb he hpl
theorem cb_lenK (hK : X.K = K) : CallR X (.builtin "len") (rLenAll K) := hK ▸ call_lenAll
theorem cb_sumK (hK : X.K = K) (hc : X.calm = true) : CallR X (.builtin "sum") (rSum K) := hK ▸ cr_sum hc
theorem cb_allK (hK : X.K = K) (hc : X.calm = true) : CallR X (.builtin "all") (rAll K) := hK ▸ cr_all hc
theorem cb_anyK (hK : X.K = K) (hc : X.calm = true) : CallR X (.builtin "any") (rAny K) := hK ▸ cr_any hc
theorem cb_maxK (hK : X.K = K) (hc : X.calm = true) : CallR X (.builtin "max") (rMax K) := hK ▸ cr_max hc
theorem cb_minK (hK : X.K = K) (hc : X.calm = true) : CallR X (.builtin "min") (rMin K) := hK ▸ cr_min hc
theorem cb_sortedK (hK : X.K = K) : CallR X (.builtin "sorted") (rSortedI K) := hK ▸ cr_sortedI
theorem cb_isiK (hK : X.K = K) : CallR X (.builtin "isinstance") (rIsi K) := hK ▸ call_isi
theorem cb_tupleK (hK : X.K = K) : CallR X (.type "tuple") (fun xs H Q => ∃ p ys, xs = [.ref p] ∧ ((SqL K H p ys ∧ ∀ l, H l = none → Q (.ref l) (upd H l (.tup ys))) ∨ (SqT K H p ys ∧ Q (.ref p) H))) := hK ▸ call_tuple_of
theorem qe_bmK (hK : X.K = K) {name : Str} {T id : String} {rm : V → List V → Hp → VK → Prop} {wm : DM} (pa : PlainAttrs T) (slot : Slot T name id) (hty : typeOf (.builtin id) = pure (.type "method_descriptor")) (hm : MtR X id rm) (hs : SimM K rm wm) (ho : QE X W o to wo) (ha : QA X W (e :: es) ts ws)
    (hbase : attributeBase o name X.env (eval o X.env) = eval o X.env := by rfl)
    (hfew : ((backTo cpos (starEach (e :: es) X.env)).all (fun x => !x.1) && (backToKw cpos (keywordEach [] X.env)).all (fun x => x.1.isSome)
      && decide ((e :: es).length + ([] : List Keyword).length + (if ([] : List Keyword).isEmpty then 0 else 1) < 30)) = true := by rfl)
    (hline : (apos.endLine == cpos.line) = true := by rfl) (hst : starEach (e :: es) X.env = (false, eval e X.env) :: starEach es X.env := by rfl) (hplain : (backTo cpos (starEach es X.env)).any (·.1) = false := by rfl) :
    QE X W (.Call (.Attribute o name apos) (e :: es) [] cpos) (tBM K T rm to ts) (dBM T wm wo ws) := by subst hK; exact qe_bm pa slot hty hm hs ho ha hbase hfew hline hst hplain
theorem qe_bm0K (hK : X.K = K) {name : Str} {T id : String} {rm : V → List V → Hp → VK → Prop} {wm : DM} (pa : PlainAttrs T) (slot : Slot T name id) (hty : typeOf (.builtin id) = pure (.type "method_descriptor")) (hm : MtR X id rm) (hs : SimM K rm wm) (ho : QE X W o to wo)
    (hbase : attributeBase o name X.env (eval o X.env) = eval o X.env := by rfl) (hline : (apos.endLine == cpos.line) = true := by rfl) : QE X W (.Call (.Attribute o name apos) [] [] cpos) (tBM0 K T rm to) (dBM0 T wm wo) := by subst hK; exact qe_bm0 pa slot hty hm hs ho hbase hline
end
end DL
namespace DL
open PySem PySem.Spec PyProof.Rows L2

/-! ## a dict is walked: while it stands still -/
def keyD : Key → D
  | .inl i => .int i
  | .inr x => .str x
theorem keyD_ok {K : PySem.W.Frag} {B : Hp} : ∀ (k : Key), Dt K B (kV k) (keyD k)
  | .inl i => .int i
  | .inr x => .str x
theorem KvA.at_ {K : PySem.W.Frag} {B : Hp} {ws : List (Key × V)} {kvs : List (Key × D)} (h : KvA K B ws kvs) : ∀ {i : Nat} {q : Key × D}, kvs[i]? = some q → ∃ p : Key × V, ws[i]? = some p ∧ p.1 = q.1 ∧ Dt K B p.2 q.2 := by
  induction h with
  | nil => intro i q e; simp at e
  | cons r t ih =>
    intro i q e
    cases i with
    | zero => simp at e; subst e; exact ⟨_, rfl, r.1, r.2⟩
    | succ i => simpa using ih (by simpa using e)
def dLock (i : Nat) (w : DE) : DE := fun ρ cs Φ _ => match ρ[i]? with
  | some (some (.cell m)) => match cs m with
    | some (.dict kvs) => ∀ o ws, w ρ (setc cs m (.fdict o ws kvs)) (fun d cs' => cs' m = some (.fdict o ws kvs) ∧ Φ d (setc cs' m (.dict kvs))) noEx
    | _ => False
  | _ => False
def diKeys (w : DE) : DI := fun ρ cs Φ Ψ => w ρ cs (fun d cs1 => match d with
  | .cell m => match cs1 m with
    | some (.fdict o ws kvs) => Φ (kvs.map fun p => keyD p.1) (fun cs' => cs' m = some (.fdict o ws kvs)) cs1
    | _ => False
  | _ => False) Ψ
def diItems (w : DE) : DI := fun ρ cs Φ Ψ => w ρ cs (fun d cs1 => match d with
  | .cell m => match cs1 m with
    | some (.fdict o ws kvs) => Φ (kvs.map fun p => .tup [keyD p.1, p.2]) (fun cs' => cs' m = some (.fdict o ws kvs)) cs1
    | _ => False
  | _ => False) Ψ
section
variable {X : Cx} {W : WX} {K : PySem.W.Frag} {tg e : Expr} {te : TE} {we : DE} {i : Nat}
theorem sim_lock (h : SimE K W te we) : SimE K W (tLockE te) (dLock i we) := fun ρ cs Φ Ψ σ H F Q hw R L k => by
  unfold dLock at hw
  split at hw
  · rename_i m hi
    split at hw
    · rename_i kvs hc
      obtain ⟨ws, hH, kv⟩ := R.r.c m _ hc
      refine ⟨m, .dK ws, hH, trivial, fun od => ?_⟩
      obtain ⟨r1, s1⟩ := R.r.write (o := .frz od (.dK ws)) (c' := .fdict od ws kvs) hc ⟨upd_same, kv⟩
      refine h ρ _ _ _ σ _ F _ (hw od ws) (R.step r1 s1) (fun _ _ _ _ _ _ _ q _ _ _ _ => q.elim) fun d cs' v H' q R' s' td => ?_
      obtain ⟨q1, q2⟩ := q
      obtain ⟨h2, kv2⟩ := R'.r.c m _ q1
      obtain ⟨r3, s3⟩ := R'.r.write (o := .dK ws) (c' := .dict kvs) q1 ⟨ws, upd_same, kv2⟩
      exact ⟨h2, k d _ v _ q2 (R'.step r3 s3) ((s1.trans s').trans s3) (td.mono s3.base)⟩
    · exact hw.elim
  · exact hw.elim
theorem qe_lock (h : QE X W e te we) : QE X W e (tLockE te) (dLock i we) := ⟨pe_lock h.pe, sim_lock h.sim⟩
theorem yld_k {B : Hp} {m : Addr} {o : Obj} {ws : List (Key × V)} {kvs : List (Key × D)} : Yld K (Itk m o ws) B (kvs.map fun p => keyD p.1) (fun cs' => cs' m = some (.fdict o ws kvs)) where
  go := fun i H cs F r s k hi => by
    obtain ⟨h1, kv⟩ := r.c m _ k
    exact ⟨h1, by rw [kv.length]; simpa using hi⟩
  stop := fun i H cs F r s k hi => by
    obtain ⟨h1, kv⟩ := r.c m _ k
    exact ⟨h1, by rw [kv.length]; simpa using hi⟩
  yld := fun i H cs F x H' d r s k e y => by
    obtain ⟨h1, kv⟩ := r.c m _ k
    obtain ⟨rfl, ky, v, e2, rfl⟩ := y
    rw [List.getElem?_map] at e
    cases z : kvs[i]? with
    | none => rw [z] at e; cases e
    | some q =>
      rw [z] at e
      cases e
      obtain ⟨p, e3, e4, _⟩ := kv.at_ z
      rw [e2] at e3
      cases e3
      exact ⟨r, .refl, by show Dt K _ (kV ky) (keyD q.1); rw [← e4]; exact keyD_ok ky⟩
theorem yld_i {B : Hp} {m : Addr} {o : Obj} {ws : List (Key × V)} {kvs : List (Key × D)} : Yld K (Iti m o ws) B (kvs.map fun p => .tup [keyD p.1, p.2]) (fun cs' => cs' m = some (.fdict o ws kvs)) where
  go := fun i H cs F r s k hi => by
    obtain ⟨h1, kv⟩ := r.c m _ k
    exact ⟨h1, by rw [kv.length]; simpa using hi⟩
  stop := fun i H cs F r s k hi => by
    obtain ⟨h1, kv⟩ := r.c m _ k
    exact ⟨h1, by rw [kv.length]; simpa using hi⟩
  yld := fun i H cs F x H' d r s k e y => by
    obtain ⟨h1, kv⟩ := r.c m _ k
    obtain ⟨T, ky, v, e2, rfl, hT, rfl⟩ := y
    rw [List.getElem?_map] at e
    cases z : kvs[i]? with
    | none => rw [z] at e; cases e
    | some q =>
      rw [z] at e
      cases e
      obtain ⟨p, e3, e4, e5⟩ := kv.at_ z
      rw [e2] at e3
      cases e3
      exact r.tup (.cons (by rw [← e4]; exact keyD_ok ky) (.cons e5 .nil)) hT
theorem sim_keys (h : SimE K W te we) : SimI K W (iKeys te) (diKeys we) := fun ρ cs Φ Ψ σ H F R' hw R L k => h ρ cs _ _ σ H F _ hw R L fun d cs1 v H1 q R1 s1 t1 => by
  cases d with
  | cell m =>
    cases t1
    dsimp only at q
    split at q
    · rename_i o ws kvs e
      obtain ⟨h1, kv⟩ := R1.r.c m _ e
      exact ⟨m, o, rfl, .inl ⟨ws, h1, k _ _ cs1 H1 _ q R1 s1 yld_k⟩⟩
    · exact q.elim
  | _ => exact q.elim
theorem sim_items (h : SimE K W te we) : SimI K W (iItems te) (diItems we) := fun ρ cs Φ Ψ σ H F R' hw R L k => h ρ cs _ _ σ H F _ hw R L fun d cs1 v H1 q R1 s1 t1 => by
  cases d with
  | cell m =>
    cases t1
    dsimp only at q
    split at q
    · rename_i o ws kvs e
      obtain ⟨h1, kv⟩ := R1.r.c m _ e
      exact ⟨m, o, ws, rfl, h1, k _ _ cs1 H1 _ q R1 s1 yld_i⟩
    · exact q.elim
  | _ => exact q.elim
theorem qi_keys (h : QE X W e te we) : QI X W tg e (iKeys te) (diKeys we) := ⟨pi_keys h.pe, sim_keys h.sim⟩
theorem qi_items {apos cpos tpos : Pos} {elts : List Expr} {kk : Nat} (h : QE X W e te we) (hbase : attributeBase e "items" X.env (eval e X.env) = eval e X.env := by rfl) (hline : (apos.endLine == cpos.line) = true := by rfl) :
    QI X W (.Tuple elts kk tpos) (.Call (.Attribute e "items" apos) [] [] cpos) (iItems te) (diItems we) := ⟨pi_items h.pe hbase hline, sim_items h.sim⟩
end
end DL
namespace DL
open PySem PySem.Spec PyProof.Rows L2

/-! ## the law itself -/
theorem hid_none {H : Hp} : hid H (fun _ => none) (fun _ => none) = H := by
  funext b; unfold hid; simp
theorem law_from {K : PySem.W.Frag} {Pf : DSp} {H : Hp} {a : Addr} {ns : List Int} (hS : SqL K H a (ns.map V.int))
    (h : Pf [.rl (ns.map D.int)] (fun _ => none) (fun d _ => d = .bl true) fun _ _ => False) : spD K Pf [.ref a] H (fun v _ => v = .bl true) fun _ _ _ => False := by
  refine ⟨fun _ => none, fun _ => none, _, _, _, ⟨(fun a x e => nomatch e), (fun a o e => nomatch e), fun a x e => rfl⟩, ?_, h, fun d cs' v H' e _ _ t => ?_, fun x cs' H' b v q _ _ _ _ => q⟩
  · exact .cons (.rl (by rw [hid_none]; exact hS) (DtA.map_int ns)) .nil
  · subst e; cases t; rfl
theorem walk_w {l : PySem.W.OpenLaw} {n k : Nat} {q : Program} {others : List Str} {XP : (Str → Option Value) → Heap → Prop} {YP : World → Heap → Prop} {d : DefRec} {x : Str} (hn : l.most = some n) (hn2 : n ≤ sizeLine) (hdf : d.params.defaults = []) (hr : Room k callerA)
    (G : ∀ (w : World) (mg : Str → Option Value) (fa : Addr) (h : Heap), YP w h → h.Ns mainGlobals mg → mg d.name = some (.ref fa) →
      ∃ (K : PySem.W.Frag) (Pf : DSp), K.In h ∧ (∀ ns : List Int, ns.length ≤ n → Pf [.rl (ns.map D.int)] (fun _ => none) (fun d _ => d = .bl true) fun _ _ => False) ∧
        ∃ fd : FuncData, (∀ (s : Shared) (u : Value), BindsTo s fd ⟨[u], []⟩ [(x, u)]) ∧ ∀ base : Heap, FnOk l.prog w K mg base (L2.CX l.prog w) k fa fd [x] (spD K Pf)) :
    PySem.W.WalkO q others XP YP l.row.toRowW d [] (fun f vs => PySem.call f vs) := by
  refine Att.attach_call hn hdf fun w s₀ s₁ mg mb fa o pm cd doc a vs ns Gd Y ho hd hcd hmg hobj hints hlen hg => ?_
  obtain ⟨K, Pf, KX, hs, fd, hb, hF⟩ := G w mg fa _ Y Gd.T.g hmg
  refine law_call KX Gd.T.g Gd.T.b Gd.T.builtins Gd.T.nolimit hg hobj hints (Nat.le_trans hlen hn2) hr (fun base _ _ => hF base) hb (fun H _ hS => law_from hS (hs ns hlen)) fun H e s' hc => ?_
  obtain ⟨_, _, _, _, _, _, _, _, _, _, _, _, bad⟩ := hc
  exact bad
end DL
namespace DL
open PySem PySem.Spec PyProof.Rows L2

/-! ## an own exception over ValueError whose __init__ says super().__init__(text); self.what = what -/
section
variable {X : Cx} {pins : List (Addr × Obj)} {σ : L2.St} {H : Hp} {s : Shared} {a C u : Addr} {E : Value → Shared → Prop} {A : Around}
theorem mw_ok {us : List Value} {Q : Value → Shared → Prop} (T : OexC X.K C) (I : Inv X pins σ H s) (e : H a = some (exo a C none)) (hu : s.heap.get? u = some (PySem.W.kxs_mw "ValueError.__init__" a)) (hl : us.length ≤ sizeLine)
    (h : ∀ s', Inv X pins σ H s' → Q .none s') : wpAny (model X.prog X.w) A (call (.ref u) us) Q E s := by
  obtain ⟨nm, q, N, bs, bm, sn, sub, ab, col, dd, k0, k1, k2, k3, k5, hC, hbm⟩ := T.cls
  obtain ⟨t1, ho⟩ := exo_at I.hok e
  obtain ⟨hp, g, d, t, os⟩ := s
  have FB := F.excBase_ValueError
  refine wpAny_call (codeAny_of_tree ?_)
  show wpAny _ A.in1 (callAny (.ref u) ⟨us, []⟩) _ _ _
  simp only [callAny]
  refine wpAny_bind (wpAny_load hu ?_)
  simp only [PySem.W.kxs_mw, show (Value.type "method-wrapper" == Value.type "method" || Value.type "method-wrapper" == Value.type "builtin_function_or_method" || Value.type "method-wrapper" == Value.type "method-wrapper") = true by decide, if_true]
  refine PySem.W.KFB.if_so (by decide) ?_
  refine wpAny_bind (PySem.W.check_bound_init FB.toExcCallFacts (I.kIn _ _ hC) ho rfl ?_)
  refine wpAny_bind (wpAny_pure (wpAny_pure ?_))
  refine ⟨plainId_quiet FB.init.plain _, codeAny_builtin FB.initEntry ?_⟩
  refine PySem.W.exc_init_tree (cls := .ref C) (t0 := t1) (dv := none) (c2 := .none) (c3 := .none) (b4 := .bool false) ho hl fun h' k hx _ => ?_
  have J := I.write (t' := t) (x := a) (e := a) (o := exo a C none) (by rw [e]; exact True.intro) (.inl rfl) k ⟨_, hx⟩ (exo_ok hx)
  have eu : upd H a (exo a C none) = H := by
    funext b
    by_cases hb : b = a
    · rw [hb, upd_same, e]
    · rw [upd_ne hb]
  rw [eu] at J
  exact h _ J
end
abbrev supBody (txt : Str) (n : Nat) (p0 p1 p2 p3 p4 p5 p6 p7 p8 p9 : Pos) : List Stmt :=
  [.Expr (.Call (.Attribute (.Call (.Name "super" p0) [] [] p1) "__init__" p2) [.Constant (.str txt) n p3] [] p4) p5, .Assign [.Attribute (.Name "self" p6) "what" p7] (.Name "what" p8) p9]
/-- its promise -/
def spSup (K : PySem.W.Frag) (D : Addr) : Sp := fun vs H Q E => ∃ (a C : Addr) (y : V), vs = [.ref a, y] ∧ H a = some (exo a C none) ∧ OexC K C ∧ PySem.W.findIn K (.ref C) "what" = some none ∧ PySem.W.mroIn K C (.ref D) = some true ∧
  PySem.W.ks_superIn K C D "__init__" = some (some (.builtin "ValueError.__init__")) ∧ PySem.W.subIn K (.ref C) (.type "ValueError") = some true ∧ ∀ dx, H dx = none → dx ≠ a → Q .non (upd (upd H dx (exd dx [("what", y)])) a (exo a C (some dx)))
/-- what the written part says of such an __init__ -/
structure SupAt (P : Program) (K : PySem.W.Frag) (mg : Str → Option Value) (f cc cda D : Addr) (name qual : Str) (params : Arguments) (body : List Stmt) (scope : Scope) (fd : FuncData) : Prop where
  fdq : ∃ kV doc pm an ct, fd = PySem.W.ksFn name qual params body scope .none kV doc pm an (.ref cda) ct cc
  lk : ∃ oc od osl, K.lookup f = some ⟨oc, od, .func fd, osl⟩
  code : PySem.W.codeIn K (.ref cda) qual = true
  cda : ∃ ccl cdd ccs vs file tf, K.lookup cda = some ⟨ccl, cdd, .fields vs, ccs⟩ ∧ vs[2]? = some (.str file tf) ∧ ((P.main.file : Str) == file) = true
  cell : ∃ cl cld csl, K.lookup cc = some ⟨cl, cld, .cell (some (.ref D)), csl⟩
  cls : ∃ cdD, PySem.W.clsIn K D = some cdD
  free : mg "super" = none
  stat : PySem.W.nsIn K cStatics "thirdparty.any" = some none
section
variable {CX : CXT} {P : Program} {w : World} {K : PySem.W.Frag} {mg : Str → Option Value} {base : Heap} {k : Nat} {f cc cda D : Addr} {name qual : Str} {params : Arguments} {body : List Stmt} {scope : Scope} {fd : FuncData} {txt : Str} {n : Nat} {p0 p1 p2 p3 p4 p5 p6 p7 p8 p9 : Pos}
theorem fn_super (G : SupAt P K mg f cc cda D name qual params body scope fd) (eb : body = supBody txt n p0 p1 p2 p3 p4 p5 p6 p7 p8 p9) (S : NdefX.NScope ["self", "what", "__class__"] ["self", "what"] ["__class__"] scope)
    (hks : scope.names.lookup ("super" : Str) = some .globalImplicit) (hkc : scope.names.lookup ("__class__" : Str) = some .free) (hself : (params.posonlyargs ++ params.args).head?.map (·.arg) = some ("self" : Str))
    {pl : Env → Sem Bool} (hev : ∀ env : Env, eval (.Call (.Attribute (.Call (.Name "super" p0) [] [] p1) "__init__" p2) [.Constant (.str txt) n p3] [] p4) env = (do
      let ov ← attributeBase (.Call (.Name "super" p0) [] [] p1) "__init__" env (eval (.Call (.Name "super" p0) [] [] p1) env)
      standAt p2.atName
      let (f, first) ← holding [ov] (getMethod ov "__init__" (pl env))
      callWith p4 f first (backTo p4 (starEach [.Constant (.str txt) n p3] env)) []))
    (hsw : ∀ {env : Env}, swapsWith (.Name "what" p8) (some (.Attribute (.Name "self" p6) "what" p7)) p9.line env = pure false)
    (htop : (P.main.scope.names.lookup ("super" : Str)).isSome = false) : FnOk P w K mg base CX (k + 1) f fd ["self", "what"] (spSup K D) := by
  subst eb
  refine ⟨fun vs H Q E ⟨a, C, y, e, _⟩ => by rw [e]; rfl, fun A outer s H args us vs Q E hr e0 hb r hsp => ?_⟩
  obtain ⟨a, C, y, rfl, ha, T, hno, hmro, hsup, hVE, hq⟩ := hsp
  obtain ⟨kV, doc, pm, an, ct, rfl⟩ := G.fdq
  obtain ⟨oc, od, osl, lk⟩ := G.lk
  obtain ⟨ccl, cdd, ccs, cvs, file, tf, hcda, hfile1, hfile2⟩ := G.cda
  obtain ⟨cl, cld, csl, hcell⟩ := G.cell
  obtain ⟨cdD, hD⟩ := G.cls
  have KX : K.In s.heap := e0.mod.kin.keeps fun b o e => (e0.bs b o e).1
  have lim : s.heap.NoLimit := e0.mod.nolimit.keeps fun b o e => (e0.bs b o e).1
  refine ks_codeAny_call_defAt (body := supBody txt n p0 p1 p2 p3 p4 p5 p6 p7 p8 p9) hr.depth (KX _ _ lk) rfl lim (PySem.W.codeRec_of KX G.code) rfl hb S.nocell (fun ⟨n, _⟩ hy => S.par n (List.of_mem_zip hy).1) (fun h₁ hns kp => ?_) S.co S.gen S.kind
  obtain ⟨Fd, hFd⟩ : ∃ Fd : NdefX.NF, Fd = ⟨name, qual, params, supBody txt n p0 p1 p2 p3 p4 p5 p6 p7 p8 p9, scope, [("__class__", cc)], cda⟩ := ⟨_, rfl⟩
  have e1 : callEnv (PySem.W.ksFn name qual params (supBody txt n p0 p1 p2 p3 p4 p5 p6 p7 p8 p9) scope .none kV doc pm an (.ref cda) ct cc) s.heap.objs.size f = NdefX.envF Fd f s.heap.objs.size := by rw [hFd]; rfl
  rw [e1]
  have Cc : NdefX.CellsAt Fd.cl ["__class__"] [none] s.heap H := by
    subst hFd
    refine ⟨rfl, fun y' c' e => ?_, fun x y' c' e e' => ?_, fun i y' hi => ?_⟩
    · have : c' = cc := by
        by_cases q : y' = "__class__"
        · subst q; simpa [List.lookup] using e.symm
        · rw [List.lookup_cons] at e
          have : (y' == ("__class__" : Str)) = false := by simpa using q
          rw [this] at e; cases e
      subst this
      exact ⟨(e0.bs _ _ (e0.mod.kin _ _ hcell)).2, _, _, KX _ _ hcell, rfl⟩
    · have key : ∀ z : Str, ([("__class__", cc)] : List (Str × Addr)).lookup z = some c' → z = "__class__" := fun z e => by
        by_cases q : z = "__class__"
        · exact q
        · rw [List.lookup_cons] at e
          have : (z == ("__class__" : Str)) = false := by simpa using q
          rw [this] at e; cases e
      rw [key x e, key y' e']
    · have : i = 0 ∧ y' = "__class__" := by
        cases i with
        | zero => exact ⟨rfl, by simpa using hi.symm⟩
        | succ i => simp at hi
      obtain ⟨rfl, rfl⟩ := this
      exact ⟨cc, rfl, fun v hv => by simp at hv⟩
  have Sd : NdefX.NScope ["self", "what", "__class__"] ["self", "what"] ["__class__"] Fd.scope := by rw [hFd]; exact S
  have I : Inv (NdefX.ncx CX P w K mg base ["self", "what", "__class__"] Fd f A outer s H E) [] (NdefX.startF ["self", "what", "__class__"] [.ref a, y] [none]) H { s with heap := h₁, toks := s.toks + (["self", "what"].zip us).length } := NdefX.inv_startN Sd hr.hd e0 rfl r Cc hns kp
  have hX : (NdefX.ncx CX P w K mg base ["self", "what", "__class__"] Fd f A outer s H E).env = NdefX.envF Fd f s.heap.objs.size := rfl
  obtain ⟨uy, ry⟩ : ∃ uy, us = [.ref a, uy] ∧ L2.RelV y uy := by
    cases r with
    | @cons _ u0 _ _ r0 r1 =>
      cases r1 with
      | @cons _ u1 _ _ r2 r3 =>
        cases r3
        obtain rfl : u0 = Value.ref a := r0
        exact ⟨u1, rfl, r2⟩
  have hdc : Fd.scope = scope ∧ Fd.qual = qual ∧ Fd.c = cda ∧ Fd.cl = ([("__class__", cc)] : List (Str × Addr)) := by rw [hFd]; exact ⟨rfl, rfl, rfl, rfl⟩
  have kself : (NdefX.envF Fd f s.heap.objs.size).kindOf "self" = some .local := by
    show Fd.scope.names.lookup _ = _
    rw [hdc.1]; exact S.par "self" (by simp)
  have kI : K.In h₁ := KX.keeps kp
  have hkd : Fd.scope.kind = .function := Sd.kind
  have hia : interactive (NdefX.envF Fd f s.heap.objs.size) = false := by
    unfold interactive
    rw [show (NdefX.envF Fd f s.heap.objs.size).scope.kind = .function from hkd]; rfl
  refine ks_wpAt_execs_cons (ks_wpAt_Expr_any (ks_wpAt_MethodCall ?_ (hev _)) hia)
  obtain ⟨ar, har, ear⟩ : ∃ ar, (params.posonlyargs ++ params.args).head? = some ar ∧ ar.arg = ("self" : Str) := by
    cases e : (params.posonlyargs ++ params.args).head? with
    | none => rw [e] at hself; cases hself
    | some ar => rw [e] at hself; exact ⟨ar, rfl, Option.some.inj hself⟩
  refine ks_wpAt_super_base (f := f) (cc := cda) (ar := ar) (vs := cvs) (file := file) (tf := tf) ?_ ?_ (by decide) rfl (kI _ _ lk) rfl har ?_ (kI _ _ hcda) rfl hfile1 hfile2 htop ?_
  · show Fd.scope.names.lookup _ = _
    rw [hdc.1]; exact hks
  · show Fd.scope.names.lookup _ = _
    rw [hdc.1]; exact hkc
  · show Value.ref Fd.c = _
    rw [hdc.2.2.1]
  have hsg : mg "super" = none := G.free
  obtain ⟨mb, hmb, hmbb⟩ := e0.mod.blt
  have kb : ∀ b o, base.get? b = some o → h₁.get? b = some o := fun b o e => kp b o (e0.bs b o e).1
  have boot : bootBuiltins "super" = some (.type "super") := by decide +kernel
  refine PySem.W.ks_loadName_global hkd (show Fd.scope.names.lookup _ = _ by rw [hdc.1]; exact hks) (Calls.loadGlobal_builtin (env := NdefX.envF Fd f s.heap.objs.size) (e0.mod.glob.keeps kb) hsg (hmb.keeps kb) ((hmbb _ (by decide +kernel)).trans boot) ⟨rfl, ?_⟩)
  obtain ⟨m, hm, hlook⟩ := I.loc
  obtain ⟨u0, ru0, lu0⟩ := hlook 0 "self" (.ref a) rfl rfl (.inl kself)
  obtain rfl : u0 = Value.ref a := ru0
  have ms : m "self" = some (.ref a) := by
    rcases lu0 with ⟨_, e⟩ | ⟨e, _⟩
    · exact e
    · rw [show (NdefX.ncx CX P w K mg base ["self", "what", "__class__"] Fd f A outer s H E).env.kindOf "self" = some .local from kself] at e
      rcases e with e | e <;> cases e
  refine wpAny_loadName_free hkd (show Fd.scope.names.lookup _ = _ by rw [hdc.1]; exact hkc) (show Fd.cl.lookup _ = some cc by rw [hdc.2.2.2]; rfl) ⟨_, kI _ _ hcell, rfl⟩ ?_
  rw [ear]
  refine wpAny_loadName_local hkd kself hm ms ?_
  obtain ⟨oD, hD1, hD2⟩ : ∃ oD, h₁.get? D = some oD ∧ oD.data = .cls cdD := by
    unfold PySem.W.clsIn at hD
    split at hD
    · rename_i c d cd' sl ho
      cases hD
      exact ⟨_, kI _ _ ho, rfl⟩
    · cases hD
  obtain ⟨t1, hoe⟩ := exo_at I.hok ha
  refine ks_wpAny_isType_cls hD1 hD2 ⟨rfl, ?_⟩
  refine ks_wpAny_call_super hD1 hD2 hoe rfl (fun c e => by cases e) (PySem.W.looks_mroIn kI hmro) fun h2 hso k2 => ?_
  have I2 := I.kept (t' := s.toks + (["self", "what"].zip us).length) k2
  have kI2 : K.In h2 := kI.keeps k2
  obtain ⟨cdC, hcC, hal⟩ : ∃ cdC, PySem.W.clsIn K C = some cdC ∧ PySem.W.alongIn K "__init__" ((cdC.mro.dropWhile (· != .ref D)).drop 1) = some (some (.builtin "ValueError.__init__")) := by
    unfold PySem.W.ks_superIn at hsup
    cases e : PySem.W.clsIn K C with
    | none => rw [e] at hsup; cases hsup
    | some cdC => rw [e] at hsup; exact ⟨cdC, rfl, hsup⟩
  have Ia : PySem.W.InstAt h2 a { cls := .ref C, dict := none, data := .fields #[.ref t1, .none, .none, .none, .bool false, .none] } C none := ⟨k2 _ _ hoe, rfl, rfl, trivial⟩
  refine PySem.W.kxs_getMethod PySem.W.kxs_ValueError hso (PySem.W.looks_opaque kI2 G.stat) (l₀ := cdC.mro) (fun A Q E s k q => wpAny_bind ((PySem.W.looks_clsIn kI2 hcC) A _ E s k (wpAny_pure q))) rfl kI2 hal (Ia.type.andThen (PySem.W.looks_subIn kI2 hVE)) (PySem.W.ks_ne kI2 Ia hcC) (by decide) ?_
  have I3 := I2.kept (t' := s.toks + (["self", "what"].zip us).length + 1) (h' := h2.push (PySem.W.kxs_mw "ValueError.__init__" a)) fun b o e => Heap.get?_push_of_some _ e
  refine PySem.W.kxs_callWith (i := "ValueError.__init__") (x := a) rfl (Calls.evalArgs_plain ?_)
  refine Calls.spliced_cons (Calls.Constant_str (k := n) (pos := p3) (Calls.spliced_nil ?_))
  refine ⟨Heap.get?_push_at rfl rfl, ?_⟩
  refine mw_ok (X := NdefX.ncx CX P w K mg base ["self", "what", "__class__"] Fd f A outer s H E) T (I3.tok _) ha (Heap.get?_push_at rfl rfl) (by show 1 ≤ sizeLine; decide) fun s4 I4 => ?_
  show PySem.wpAt _ _ _ (execs [.Assign [.Attribute (.Name "self" p6) "what" p7] (.Name "what" p8) p9] (NdefX.envF Fd f s.heap.objs.size)) _ _ _
  have kwhat : (NdefX.envF Fd f s.heap.objs.size).kindOf "what" = some .local := by
    show Fd.scope.names.lookup _ = _
    rw [hdc.1]; exact S.par "what" (by simp)
  have st := pss_one (ps_ost (X := NdefX.ncx CX P w K mg base ["self", "what", "__class__"] Fd f A outer s H E) (f := "what") (p' := p7) (pos := p9) (pe_var (i := 0) (pos := p6) rfl (.inl kself)) (pe_var (i := 1) (pos := p8) rfl (.inl kwhat)) hsw)
  refine wpAt_of_wpAny (wpAny_mono (st.run [] s4 _ H { nx := fun _ H' => Q .non H', rt := Q } I4 ⟨y, rfl, .ref a, rfl, a, C, rfl, T, hno, .inl ⟨ha, fun dx q1 q2 => hq dx q1 q2⟩⟩) (fun fl s5 hs => ?_) fun e s5 hs => hs)
  have fin : ∀ {σ' : L2.St} {H' : Hp} {v : V} {u : Value}, Inv (NdefX.ncx CX P w K mg base ["self", "what", "__class__"] Fd f A outer s H E) [] σ' H' s5 → L2.RelV v u → Q v H' → CE outer P w H s Q u s5 :=
    fun {σ' H' v u} J rv q => ⟨v, H', J.os, J.bare, J.base, J.hok, rv, q⟩
  cases fl with
  | ret u =>
    obtain ⟨v, σ', H', J, rv, q⟩ := hs
    exact fin J rv q
  | next =>
    obtain ⟨σ', H', J, q⟩ := hs
    exact fin (v := V.non) (u := Value.none) J rfl q
  | brk =>
    obtain ⟨_, _, _, q⟩ := hs
    exact False.elim q
  | cont =>
    obtain ⟨_, _, _, q⟩ := hs
    exact False.elim q
end
end DL
namespace DL
open PySem PySem.Spec PyProof.Rows L2

/-! ## several except clauses, with and without a name: what each clause wishes; one lemma a clause -/
abbrev Cl : Type := Value × Option Nat × (Addr → Value → Option Addr → TS)
/-- behind a clause with a name, the name is gone -/
def gone1 (D : Ends) (i : Nat) : Ends := { nx := fun τ G => D.nx (τ.set i none) G, rt := D.rt, bk := fun τ G => D.bk (τ.set i none) G, ct := fun τ G => D.ct (τ.set i none) G }
def clauseW (K : PySem.W.Frag) (c : Value) (hit : Addr → Value → Option Addr → L2.St → Hp → Prop) (miss : WX) : WX := fun cls d τ G => ∃ b, PySem.W.exmOne K cls c = some b ∧ (b = true → ∀ a, G a = none → hit a cls d τ G) ∧ (b = false → miss cls d τ G)
def wAny (K : PySem.W.Frag) (Wout : WX) (D : Ends) : List Cl → WX
  | [] => Wout
  | (c, none, ts) :: r => clauseW K c (fun a cls d τ G => ts a cls d D τ G) (wAny K Wout D r)
  | (c, some i, ts) :: r => clauseW K c (fun a cls d τ G => ts a cls d (gone1 D i) (τ.set i (some (.ref a))) G) (wAny K Wout D r)
/-- an exception of the body has landed in the frame of X -/
structure Down (X : Cx) (pins : List (Addr × Obj)) (B : Heap) (sI : Shared) (a : Addr) (cls : Value) (d : Option Addr) (τ : L2.St) (G : Hp) (sh : Shared) : Prop where
  fly : HandSPX.FlyingZ B (X.env :: X.outer) a (Zc cls d) sh.heap
  inv : Inv X pins τ G sI
  grd : ∀ b o, sI.heap.get? b = some o → b ∉ frs X.stack → B.get? b = some o
  slots : sI.heap.UpToSlots sh.heap
  new : G a = none
  os : sh.os = sI.os
  bare : AllBare sh.gens
section
variable {X : Cx} {pins : List (Addr × Obj)} {B : Heap} {sI sh : Shared} {a : Addr} {cls c : Value} {d : Option Addr} {τ : L2.St} {G : Hp} {D : Ends} {Wout : WX} {hds : List ExceptHandler} {x n : Str} {i : Nat} {ts : Addr → Value → Option Addr → TS} {b₀ : Stmt} {suite : List Stmt} {np pos' : Pos}
theorem Down.here (w : Down X pins B sI a cls d τ G sh) : Inv X pins τ G sh := w.inv.landed w.grd w.fly.1 w.slots w.os w.bare
/-- the exception's object; its address is no frame -/
theorem Down.obj (hf : X.env.frame = some X.env.locals) (w : Down X pins B sI a cls d τ G sh) : ∃ oe vs, sh.heap.get? a = some oe ∧ Zc cls d oe ∧ oe.data = .fields vs ∧ a ≠ X.env.locals ∧ a ∉ X.fs := by
  obtain ⟨oe, vs, h1, h2, h3⟩ := w.fly.there
  have off : a ∉ frs (X.env :: X.outer) := fun m => by
    obtain ⟨_, o2, h4, no⟩ := w.fly.2.2.1.mem m
    rw [h1] at h4
    cases h4
    exact no _ h3
  refine ⟨oe, vs, h1, h2, h3, fun q => off ?_, fun m => off ?_⟩
  · exact List.mem_filterMap.mpr ⟨X.env, List.mem_cons_self, by rw [hf, q]⟩
  · obtain ⟨v, hv, q⟩ := List.mem_filterMap.mp m
    exact List.mem_filterMap.mpr ⟨v, List.mem_cons_of_mem _ hv, q⟩
/-- an except suite's context at its entry -/
theorem Down.in_ (hf : X.env.frame = some X.env.locals) (w : Down X pins B sI a cls d τ G sh) : ∃ oe, Zc cls d oe ∧ (∃ vs, oe.data = .fields vs) ∧ Inv (X.suite a ((a, oe) :: (X.pn ++ pins))) [] τ G sh := by
  obtain ⟨oe, vs, h1, h2, h3, h4, h5⟩ := w.obj hf
  exact ⟨oe, h2, ⟨vs, h3⟩, w.here.suite h1 h3 w.new h4 h5⟩
/-- what a list of clauses does with it -/
def Serves (X : Cx) (hds : List ExceptHandler) (D : Ends) (W : WX) : Prop := ∀ (pins : List (Addr × Obj)) (B : Heap) (sI : Shared) (a : Addr) (cls : Value) (d : Option Addr) (τ : L2.St) (G : Hp) (sh : Shared),
  Down X pins B sI a cls d τ G sh → W cls d τ G → wpAny (model X.prog X.w) X.A (handleBy (.ref a) X.env hds) (SP X pins D) X.xe sh
theorem serves_nil (hs : X.stack = X.env :: X.outer) (hf : X.env.frame = some X.env.locals) (tk : Takes X Wout) : Serves X [] D Wout := fun pins B sI a cls d τ G sh w q => by
  refine wpAny_handleBy_nil ?_
  obtain ⟨_, _, _, _, _, T, _, _, ho, _, hd, h1, _⟩ := id w.fly
  unfold PySem.passOn
  refine wpAny_bind (wpAny_field ho hd h1 ?_)
  rw [if_neg (show ¬ ((Value.ref T == Value.none) = true) by simp)]
  have out : wpAny (model X.prog X.w) X.A (setFlight (.ref a) X.env.frame) (fun _ sf => wpAny (model X.prog X.w) X.A (throw (.ref a) : Sem Flow) (SP X pins D) X.xe sf) X.xe sh := by
    rw [hf]
    refine HandSPX.setFlight_upZ w.fly fun hz held up => wpAny_throw (tk _ _ ⟨a, B, sI, pins, τ, G, cls, d, rfl, w.inv, w.grd, w.slots.trans up, .inr (.inr ?_), w.new, w.os, w.bare, q⟩)
    rw [hs]; exact held
  first
    | exact wpAny_bind (wpAny_pure (wpAny_bind out))
    | exact wpAny_bind out
/-- the clause's class is looked at -/
theorem Down.asks (hf : X.env.frame = some X.env.locals) (hc : Names X x c) (w : Down X pins B sI a cls d τ G sh) {b : Bool} (hb : PySem.W.exmOne X.K cls c = some b) {Q : Bool → Shared → Prop} {E : Value → Shared → Prop} (h : Q b sh) :
    wpAny (model X.prog X.w) (X.A.mark (some (.ref a))) (eval (.Name x np) X.env) (fun v s1 => wpAny (model X.prog X.w) (X.A.mark (some (.ref a))) (excMatches (.ref a) v) Q E s1) E sh := by
  obtain ⟨oe, z, vs, S⟩ := w.in_ hf
  obtain ⟨ho, vo, h1, h2, _⟩ := w.obj hf
  have ty : PySem.W.Looks (model X.prog X.w) sh.heap (typeOf (.ref a)) cls := fun A Q E s k q => wpAny_typeOf_ref (k _ _ h1) (by rw [h2.1]; exact q)
  have ends := (PySem.W.exm_one (M := model X.prog X.w) w.here.kIn ty hb).here (A := X.A.mark (some (.ref a))) (E := E) h
  obtain ⟨hg, hd, hm | ⟨hm, hv, hn⟩⟩ := hc
  · exact ld_glob (X := X.suite a ((a, oe) :: (X.pn ++ pins))) S hg hm ends hd
  · exact ld_blt (X := X.suite a ((a, oe) :: (X.pn ++ pins))) S hg hm hv ends hn hd
abbrev SuiteOk (X : Cx) (suite : List Stmt) (ts : Addr → Value → Option Addr → TS) : Prop :=
  ∀ (a : Addr) (oe : Obj) (cls : Value) (d : Option Addr) (pn : List (Addr × Obj)), Zc cls d oe → (∃ vs, oe.data = .fields vs) → PSs (X.suite a ((a, oe) :: pn)) suite (ts a cls d)
theorem serves_cons {W : WX} (hf : X.env.frame = some X.env.locals) (hc : Names X x c) (hsu : SuiteOk X (b₀ :: suite) ts) (r : Serves X hds D W) :
    Serves X (.ExceptHandler (some (.Name x np)) none (b₀ :: suite) pos' :: hds) D (clauseW X.K c (fun a cls d τ G => ts a cls d D τ G) W) := fun pins B sI a cls d τ G sh w ⟨b, eb, yes, no⟩ => by
  refine wpAny_handleBy_cons (codeAny_handlers_test (w.asks hf hc eb ?_)) (by intro q; cases q)
  cases b with
  | false => exact r pins B sI a cls d τ G sh w (no rfl)
  | true =>
    refine codeAny_handlers_suite (HandSPX.lands_againZ w.fly fun h2 fly2 up2 => ?_)
    have w2 : Down X pins B sI a cls d τ G { sh with heap := h2 } := ⟨fly2, w.inv, w.grd, w.slots.trans up2, w.new, w.os, w.bare⟩
    obtain ⟨oe, z, vs, S⟩ := w2.in_ hf
    refine wpAny_mono ((hsu a oe cls d _ z vs).run [] _ _ _ _ S (yes rfl a w.new)) (fun fl s2 sp => ?_) fun _ _ q => False.elim q
    cases fl with
    | ret u => obtain ⟨v, τ2, G2, S2, rv, q⟩ := sp; exact ⟨v, τ2, G2, S2.unsuite w.inv.ok, rv, q⟩
    | next => obtain ⟨τ2, G2, S2, q⟩ := sp; exact ⟨τ2, G2, S2.unsuite w.inv.ok, q⟩
    | brk => obtain ⟨τ2, G2, S2, q⟩ := sp; exact ⟨τ2, G2, S2.unsuite w.inv.ok, q⟩
    | cont => obtain ⟨τ2, G2, S2, q⟩ := sp; exact ⟨τ2, G2, S2.unsuite w.inv.ok, q⟩
theorem serves_as {W : WX} (hf : X.env.frame = some X.env.locals) (hN : X.N.Nodup) (hi : X.N[i]? = some n) (hln : X.env.kindOf n = some .local) (hc : Names X x c) (hsu : SuiteOk X (b₀ :: suite) ts) (r : Serves X hds D W) :
    Serves X (.ExceptHandler (some (.Name x np)) (some n) (b₀ :: suite) pos' :: hds) D (clauseW X.K c (fun a cls d τ G => ts a cls d (gone1 D i) (τ.set i (some (.ref a))) G) W) := fun pins B sI a cls d τ G sh w ⟨b, eb, yes, no⟩ => by
  refine wpAny_handleBy_cons (codeAny_handlers_test (w.asks hf hc eb ?_)) (by intro q; cases q)
  cases b with
  | false => exact r pins B sI a cls d τ G sh w (no rfl)
  | true =>
    refine codeAny_handlers_suite_as (HandSPX.lands_againZ w.fly fun h2 fly2 up2 => ?_)
    have w2 : Down X pins B sI a cls d τ G { sh with heap := h2 } := ⟨fly2, w.inv, w.grd, w.slots.trans up2, w.new, w.os, w.bare⟩
    obtain ⟨oe, z, vs, S⟩ := w2.in_ hf
    refine store_ok (X := X.suite a ((a, oe) :: (X.pn ++ pins))) (v := .ref a) S hN hi (.inl hln) rfl (fun s3 S3 => ?_) (.inr hln)
    refine wpAny_mono ((hsu a oe cls d _ z vs).run [] s3 _ _ _ S3 (yes rfl a w.new)) (fun fl s2 sp => ?_) fun _ _ q => False.elim q
    have off : ∀ {τ2 : L2.St} {G2 : Hp} {Q : Shared → Prop}, Inv (X.suite a ((a, oe) :: (X.pn ++ pins))) [] τ2 G2 s2 → (∀ s7, Inv X pins (τ2.set i none) G2 s7 → Q s7) →
        wpAny (model X.prog X.w) X.A (do bindName X.env n .none; unbindBehindTheSuite X.env n pos') (fun _ s7 => Q s7) X.xe s2 := fun S2 hq => gone_ok (S2.unsuite w.inv.ok) hN hi hln hq
    cases fl with
    | ret u => obtain ⟨v, τ2, G2, S2, rv, q⟩ := sp; exact off S2 fun s7 J => ⟨v, _, G2, J, rv, q⟩
    | next => obtain ⟨τ2, G2, S2, q⟩ := sp; exact off S2 fun s7 J => ⟨_, G2, J, q⟩
    | brk => obtain ⟨τ2, G2, S2, q⟩ := sp; exact off S2 fun s7 J => ⟨_, G2, J, q⟩
    | cont => obtain ⟨τ2, G2, S2, q⟩ := sp; exact off S2 fun s7 J => ⟨_, G2, J, q⟩
/-- the clauses of the text, one by one -/
inductive HdsA (X : Cx) : List ExceptHandler → List Cl → Prop
  | nil : HdsA X [] []
  | cons {x : Str} {c : Value} {ts : Addr → Value → Option Addr → TS} {b₀ : Stmt} {suite : List Stmt} {np pos' : Pos} {hds : List ExceptHandler} {l : List Cl} : Names X x c → SuiteOk X (b₀ :: suite) ts → HdsA X hds l →
      HdsA X (.ExceptHandler (some (.Name x np)) none (b₀ :: suite) pos' :: hds) ((c, none, ts) :: l)
  | as_ {x n : Str} {c : Value} {i : Nat} {ts : Addr → Value → Option Addr → TS} {b₀ : Stmt} {suite : List Stmt} {np pos' : Pos} {hds : List ExceptHandler} {l : List Cl} : X.N[i]? = some n → X.env.kindOf n = some .local → Names X x c → SuiteOk X (b₀ :: suite) ts → HdsA X hds l →
      HdsA X (.ExceptHandler (some (.Name x np)) (some n) (b₀ :: suite) pos' :: hds) ((c, some i, ts) :: l)
theorem HdsA.serves {l : List Cl} (hs : X.stack = X.env :: X.outer) (hf : X.env.frame = some X.env.locals) (hN : X.N.Nodup) (tk : Takes X Wout) (h : HdsA X hds l) : Serves X hds D (wAny X.K Wout D l) := by
  induction h with
  | nil => exact serves_nil hs hf tk
  | cons a b _ ih => exact serves_cons hf a b ih
  | as_ a b c e _ ih => exact serves_as hf hN a b c e ih
theorem ps_tries {body : List Stmt} {h₀ : ExceptHandler} {l : List Cl} {pos : Pos} {tb : WX → TS} (hs : X.stack = X.env :: X.outer) (hf : X.env.frame = some X.env.locals) (hN : X.N.Nodup) (tk : Takes X Wout)
    (hb : ∀ (W : WX) (pn : List (Addr × Obj)) (xe : Value → Shared → Prop), Takes (X.tr pn xe) W → PassesOwn (model X.prog X.w) X.A X.env xe → PSs (X.tr pn xe) body (tb W))
    (hh : HdsA X (h₀ :: hds) l) : PS X (.Try body (h₀ :: hds) [] [] pos) (fun D σ H => tb (wAny X.K Wout D l) D σ H) := by
  refine ⟨fun pins s σ H D I h => wpAny_Try_except ?_⟩
  obtain ⟨xe, hxe⟩ : ∃ xe : Value → Shared → Prop, xe = fun u s1 => wpAny (model X.prog X.w) X.A (noteFrame u X.env) (fun _ s2 => wpAny (model X.prog X.w) X.A (setFlight u none) (fun _ s3 => wpAny (model X.prog X.w) X.A (handleBy u X.env (h₀ :: hds)) (SP X pins D) X.xe s3) X.xe s2) X.xe s1 := ⟨_, rfl⟩
  have fr : X.A.frames = some (X.env :: X.outer) := by rw [I.ok.frames, hs]
  have takes : Takes (X.tr (X.pn ++ pins) xe) (wAny X.K Wout D l) := fun u s1 q => by
    obtain ⟨a, B, sI, pn2, τ, G, cls, d, rfl, J, grd, up, sky, new, os, bare, w⟩ := q
    rw [hxe]
    have sky2 : Sky B (X.env :: X.outer) a (Zc cls d) X.env.locals s1.heap := by rw [← hs]; exact sky
    show wpAny (model X.prog X.w) X.A (noteFrame (.ref a) X.env) _ _ _
    refine Sky.land Zc.steady fr hf sky2 fun h3 fly up3 => ?_
    exact hh.serves hs hf hN tk pins B sI a cls d τ G _ ⟨fly, J.ofTry I.ok, grd, up.trans up3, new, os, bare⟩ w
  have own : PassesOwn (model X.prog X.w) X.A X.env xe := by rw [hxe]; exact PassesOwn.looking
  have go := (hb _ (X.pn ++ pins) xe takes own).run [] s σ H D (I.toTry _) h
  rw [hxe] at go
  refine wpAny_mono go (fun fl s1 sp => ?_) fun _ _ q => q
  cases fl with
  | next => obtain ⟨τ, G, J, q⟩ := sp; exact wpAny_execs_nil ⟨τ, G, J.ofTry I.ok, q⟩
  | ret u => obtain ⟨v, τ, G, J, rv, q⟩ := sp; exact ⟨v, τ, G, J.ofTry I.ok, rv, q⟩
  | brk => obtain ⟨τ, G, J, q⟩ := sp; exact ⟨τ, G, J.ofTry I.ok, q⟩
  | cont => obtain ⟨τ, G, J, q⟩ := sp; exact ⟨τ, G, J.ofTry I.ok, q⟩
end
end DL
namespace DL
open PySem PySem.Spec PyProof.Rows L2

/-! ## raise C(what), by data -/
structure RsOk (P : Program) (w : World) (K : PySem.W.Frag) (mg : Str → Option Value) (base : Heap) (k : Nat) (x : Str) (C Dd : Addr) : Prop where
  ex : ∃ fI fd, mg x = some (.ref C) ∧ OexC K C ∧ PySem.W.findIn K (.ref C) "__init__" = some (some (.ref fI)) ∧ PySem.W.typeIn K (.ref fI) = some (.type "function") ∧ Binds K fd ["self", "what"] [] ∧
    FnOk P w K mg base (L2.CX P w) k fI fd ["self", "what"] (spSup K Dd)
  no : PySem.W.findIn K (.ref C) "what" = some none
  sub : PySem.W.mroIn K C (.ref Dd) = some true
  sup : PySem.W.ks_superIn K C Dd "__init__" = some (some (.builtin "ValueError.__init__"))
  ve : PySem.W.subIn K (.ref C) (.type "ValueError") = some true
def dRaise (C : Addr) (w : DA) : DS := fun D ρ cs => w ρ cs (fun ds cs1 => match ds with
  | [d] => D.ex ⟨C, d⟩ ρ cs1
  | _ => False) D.ex
theorem new_xd {H1 : Hp} {a dx C : Addr} {y : V} (h0 : H1 a = none) (ne : dx ≠ a) :
    upd (del (upd (upd (upd H1 a (exo a C none)) dx (exd dx [("what", y)])) a (exo a C (some dx))) a) dx (.xd [("what", y)]) = upd H1 dx (.xd [("what", y)]) := by
  funext b
  by_cases e : b = dx
  · rw [e, upd_same, upd_same]
  · rw [upd_ne e, upd_ne e]
    by_cases e2 : b = a
    · rw [e2, del_same, h0]
    · rw [del_ne e2, upd_ne e2, upd_ne e, upd_ne e2]
section
variable {X : Cx} {W : WX} {x : Str} {C Dd : Addr} {k : Nat} {e : Expr} {p pos pos' : Pos} {ta : TA} {wa : DA}
theorem qs_raise (h : RsOk X.prog X.w X.K X.mg X.base k x C Dd) (hr : Room (k + 1) X.A) (hc : X.calm = true) (tk : Takes X W) (hg : Gl X x) (ha : QA X W [e] ta wa) (hdb : (x == ("__debug__" : Str)) = false := by decide)
    (he : starEach [e] X.env = (false, eval e X.env) :: starEach [] X.env := by rfl) (hpl : (backTo pos (starEach [] X.env)).any (·.1) = false := by rfl) :
    QS X W (.Raise (some (.Call (.Name x p) [e] [] pos)) none pos') (fun _ σ H => tMkO C (spSup X.K Dd) [] ta σ H fun cls d H' => W cls d σ H') (dRaise C wa) := by
  obtain ⟨fI, fd, hm, T, hi, ty, hb, F⟩ := h.ex
  have off : Passes (L2.CX X.prog X.w) X (fun _ _ _ => False) := fun _ _ _ _ _ _ _ q => by
    obtain ⟨_, _, _, _, _, _, _, _, _, _, _, _, bad⟩ := q
    exact bad.elim
  refine ⟨ps_raise hc tk (pmk_oex T hi ty F hr hb .nil off hg hm ha.pe hdb he hpl), fun ρ cs D σ H F0 D' hw R E L => ha.sim ρ cs _ _ σ H F0 _ hw R E fun ds cs1 vs H1 q R1 s1 t1 => ?_⟩
  match ds, vs, t1, q with
  | [d], [y], .cons td .nil, q =>
    refine ⟨by simp, fun a h0 => ⟨a, C, y, by simp, upd_same, T, h.no, h.sub, h.sup, h.ve, fun dx n1 ne => ?_⟩⟩
    rw [upd_ne ne] at n1
    refine ⟨rfl, dx, [("what", y)], upd_same, by rw [upd_ne ne, upd_same], n1, ?_⟩
    rw [new_xd h0 ne]
    obtain ⟨r2, s2, e2⟩ := R1.r.new (o := .xd [("what", y)]) n1
    exact E ⟨C, d⟩ ρ cs1 σ _ dx y q (R1.step r2 s2) (s1.trans s2) e2 (td.mono s2.base)
end

/-! ## try .. except, by data -/
/-- a clause: its class, the slot of its name, its suite by the exception's object and dict -/
structure Hd where
  c : Addr
  i : Option Nat
  w : Addr → Addr → DS
def goneD (D : DEnds) : Option Nat → DEnds
  | none => { nx := D.nx, rt := D.rt, bk := D.bk, ct := D.ct, ex := noEx }
  | some i => { nx := fun ρ' cs' => D.nx (ρ'.set i none) cs', rt := D.rt, bk := fun ρ' cs' => D.bk (ρ'.set i none) cs', ct := fun ρ' cs' => D.ct (ρ'.set i none) cs', ex := noEx }
def exnAt (ρ : EnvD) (a dd : Addr) (d : D) : Option Nat → EnvD
  | none => ρ
  | some i => ρ.set i (some (.exn a dd d))
def dHand (em : Addr → Addr → Option Bool) (gd : Addr → Prop) (D : DEnds) : List Hd → EK
  | [] => D.ex
  | h :: r => fun x ρ cs => ∃ b, em x.C h.c = some b ∧ (b = true → gd x.C ∧ ∀ a dd, h.w a dd (goneD D h.i) (exnAt ρ a dd x.what h.i) cs) ∧ (b = false → dHand em gd D r x ρ cs)
def dTry (em : Addr → Addr → Option Bool) (gd : Addr → Prop) (wb : DS) (hs : List Hd) : DS := fun D ρ cs => wb { D with ex := dHand em gd D hs } ρ cs
abbrev emOf (K : PySem.W.Frag) : Addr → Addr → Option Bool := fun C c => PySem.W.exmOne K (.ref C) (.ref c)
abbrev gdOf (K : PySem.W.Frag) (C : Addr) : Prop := XfC K C ∧ PySem.W.findIn K (.ref C) "what" = some none
def exTs (K : PySem.W.Frag) (ts : Addr → Addr → Addr → TS) : Addr → Value → Option Addr → TS := fun a cls d D σ H => ∃ C dd, cls = .ref C ∧ d = some dd ∧ gdOf K C ∧ ts a C dd D σ H
abbrev SuQ (X : Cx) (suite : List Stmt) (ts : Addr → Addr → Addr → TS) (w : Addr → Addr → DS) : Prop :=
  ∀ (a : Addr) (oe : Obj) (C dd : Addr) (pn : List (Addr × Obj)), gdOf X.K C → Zc (.ref C) (some dd) oe → (∃ vs, oe.data = .fields vs) → QSs (X.suite a ((a, oe) :: pn)) W0 suite (ts a C dd) (w a dd)
inductive HdsQ (X : Cx) : List ExceptHandler → List Cl → List Hd → Prop
  | nil : HdsQ X [] [] []
  | cons {x : Str} {c : Addr} {ts : Addr → Addr → Addr → TS} {w : Addr → Addr → DS} {b₀ : Stmt} {suite : List Stmt} {np pos' : Pos} {hds : List ExceptHandler} {l : List Cl} {hs : List Hd} : Names X x (.ref c) → SuQ X (b₀ :: suite) ts w → HdsQ X hds l hs →
      HdsQ X (.ExceptHandler (some (.Name x np)) none (b₀ :: suite) pos' :: hds) ((.ref c, none, exTs X.K ts) :: l) (⟨c, none, w⟩ :: hs)
  | as_ {x n : Str} {c : Addr} {i : Nat} {ts : Addr → Addr → Addr → TS} {w : Addr → Addr → DS} {b₀ : Stmt} {suite : List Stmt} {np pos' : Pos} {hds : List ExceptHandler} {l : List Cl} {hs : List Hd} : X.N[i]? = some n → X.env.kindOf n = some .local →
      Names X x (.ref c) → SuQ X (b₀ :: suite) ts w → HdsQ X hds l hs → HdsQ X (.ExceptHandler (some (.Name x np)) (some n) (b₀ :: suite) pos' :: hds) ((.ref c, some i, exTs X.K ts) :: l) (⟨c, some i, w⟩ :: hs)
section
variable {X : Cx} {W : WX} {suite body : List Stmt} {ts : Addr → Addr → Addr → TS} {w : Addr → Addr → DS} {hds : List ExceptHandler} {h₀ : ExceptHandler} {l : List Cl} {hs : List Hd} {D : DEnds} {D' : Ends} {H : Hp} {cs : Cs} {F : Hp} {pos : Pos} {tb : WX → TS} {wb : DS}
theorem SuQ.ok (h : SuQ X suite ts w) : SuiteOk X suite (exTs X.K ts) := fun a oe cls d pn z v => ⟨fun pins s σ H D I q => by
  obtain ⟨C, dd, rfl, rfl, g, q⟩ := q
  exact (h a oe C dd pn g z v).pe.run pins s σ H D I q⟩
theorem SuQ.sim (h : SuQ X suite ts w) {a C dd : Addr} (g : gdOf X.K C) : SimS X.K W0 (ts a C dd) (w a dd) :=
  (h a { cls := .ref C, dict := some dd, data := .fields #[] } C dd [] g ⟨rfl, rfl⟩ ⟨_, rfl⟩).sim
theorem HdsQ.a (h : HdsQ X hds l hs) : HdsA X hds l := by
  induction h with
  | nil => exact .nil
  | cons a b _ ih => exact .cons a (SuQ.ok b) ih
  | as_ a b c e _ ih => exact .as_ a b c (SuQ.ok e) ih
theorem HdsQ.el (h : HdsQ X hds l hs) (E : EL X.K W D.ex H cs F) (L : LE X.K H cs F D D') : EL X.K (wAny X.K W D' l) (dHand (emOf X.K) (gdOf X.K) D hs) H cs F := by
  induction h with
  | nil => exact E
  | cons hc su _ ih =>
    intro x ρ' cs' σ' H' a v q R s e t
    obtain ⟨b, eb, yes, no⟩ := q
    have L' := L.step s
    exact ⟨b, eb, fun hb a2 _ => ⟨x.C, a, rfl, rfl, (yes hb).1, (SuQ.sim su (yes hb).1) ρ' cs' _ σ' H' F D' ((yes hb).2 a2 a) R (fun _ _ _ _ _ _ _ z _ _ _ _ => z.elim) ⟨L'.nx, L'.rt, L'.bk, L'.ct⟩⟩, fun hb => ih x ρ' cs' σ' H' a v (no hb) R s e t⟩
  | @as_ _ _ _ i _ _ _ _ _ _ _ _ _ hi hl hc su _ ih =>
    intro x ρ' cs' σ' H' a v q R s e t
    obtain ⟨b, eb, yes, no⟩ := q
    have L' := L.step s
    refine ⟨b, eb, fun hb a2 _ => ⟨x.C, a, rfl, rfl, (yes hb).1, (SuQ.sim su (yes hb).1) _ cs' _ _ H' F (gone1 D' i) ((yes hb).2 a2 a) ⟨R.r, R.e.set (.exn e t) i⟩ (fun _ _ _ _ _ _ _ z _ _ _ _ => z.elim) ⟨?_, L'.rt, ?_, ?_⟩⟩, fun hb => ih x ρ' cs' σ' H' a v (no hb) R s e t⟩
    · exact fun ρ2 cs2 σ2 H2 q2 R2 s2 => L'.nx _ _ _ _ q2 ⟨R2.r, R2.e.unset i _⟩ s2
    · exact fun ρ2 cs2 σ2 H2 q2 R2 s2 => L'.bk _ _ _ _ q2 ⟨R2.r, R2.e.unset i _⟩ s2
    · exact fun ρ2 cs2 σ2 H2 q2 R2 s2 => L'.ct _ _ _ _ q2 ⟨R2.r, R2.e.unset i _⟩ s2
theorem qs_try (hst : X.stack = X.env :: X.outer) (hf : X.env.frame = some X.env.locals) (hN : X.N.Nodup) (tk : Takes X W) (hb : ∀ (W : WX) (pn : List (Addr × Obj)) (xe : Value → Shared → Prop), Takes (X.tr pn xe) W → QSs (X.tr pn xe) W body (tb W) wb)
    (hh : HdsQ X (h₀ :: hds) l hs) : QS X W (.Try body (h₀ :: hds) [] [] pos) (fun D σ H => tb (wAny X.K W D l) D σ H) (dTry (emOf X.K) (gdOf X.K) wb hs) :=
  ⟨ps_tries hst hf hN tk (fun W pn xe t _ => (hb W pn xe t).pe) hh.a, fun ρ cs D σ H F D' hw R E L =>
    (hb (wAny X.K W D' l) [] (fun _ _ => True) (fun _ _ _ => trivial)).sim ρ cs _ σ H F D' hw R (hh.el E L) ⟨L.nx, L.rt, L.bk, L.ct⟩⟩
/-- e.what in an except suite -/
def dWhat (i : Nat) (a dd : Addr) : DE := fun ρ cs Φ _ => match ρ[i]? with
  | some (some (.exn a' dd' d)) => a' = a ∧ dd' = dd ∧ Φ d cs
  | _ => False
theorem qe_what {a C dd : Addr} {oe : Obj} {pn : List (Addr × Obj)} {e : Expr} {i : Nat} {wp : Pos} (g : gdOf X.K C) (hz : Zc (.ref C) (some dd) oe) (hv : ∃ vs, oe.data = .fields vs) (he : PE (X.suite a ((a, oe) :: pn)) e (tVar i))
    (hb : attributeBase e "what" X.env (eval e X.env) = eval e X.env := by rfl) : QE (X.suite a ((a, oe) :: pn)) W (.Attribute e "what" wp) (tXf a (.ref C) (some dd) C "what" (tVar i)) (dWhat i a dd) :=
  ⟨pe_xf g.1 g.2 hz hv he hb, fun ρ cs Φ Ψ σ H F Q hw R E k => by
    unfold dWhat at hw
    split at hw
    · rename_i a' dd' d hi
      obtain ⟨rfl, rfl, q⟩ := hw
      obtain ⟨v, hv, t⟩ := R.e.get hi
      cases t with
      | exn h t => exact ⟨_, hv, rfl, rfl, _, _, _, rfl, hid_sub _ _ h, by simp [List.lookup], k d cs _ H q R .refl t⟩
    · exact hw.elim⟩
end
end DL
namespace DL
open PySem PySem.Spec PyProof.Rows L2

/-! ## a head that tells of exception classes too -/
/-- a def with super() in it: it closes over its class alone -/
structure SuD where
  at_ : Str × Option Str
  name : Str
  qual : Str
  params : Arguments
  body : List Stmt
  scope : Scope
  D : Str
abbrev FnS : Type := Option (Str × Str × Arguments × FuncBody × Scope × Addr × Addr)
def fnS (K : PySem.W.Frag) (p : Str × Option Str) : FnS := match K.lookup (He.fAd K p) with
  | some ⟨_, _, .func fd, _⟩ => some (fd.name, fd.qualname, fd.params, fd.body, fd.scope, fd.globals, fd.builtins)
  | _ => none
def SuD.val (d : SuD) : FnS := some (d.name, d.qual, d.params, .stmts d.body, d.scope, mainGlobals, builtinsNs)
def cellB (K : PySem.W.Frag) (D : Addr) : List (Str × Addr) → Bool
  | [(x, cc)] => x == ("__class__" : Str) && (match K.lookup cc with
    | some ⟨_, _, .cell (some (.ref E)), _⟩ => decide (E = D)
    | _ => false)
  | _ => false
def fileB (K : PySem.W.Frag) (file : Str) : Value → Bool
  | .ref cda => (match K.lookup cda with
    | some ⟨_, _, .fields vs, _⟩ => (match (vs[2]? : Option Value) with
      | some (.str f _) => file == f
      | _ => false)
    | _ => false)
  | _ => false
def noneB : Value → Bool
  | .none => true
  | _ => false
theorem noneB_ok {v : Value} (h : noneB v = true) : v = .none := by cases v <;> first | rfl | cases h
def SuD.ok (file : Str) (K : PySem.W.Frag) (d : SuD) : Bool := (match K.lookup (He.fAd K d.at_) with
  | some ⟨_, _, .func fd, _⟩ => cellB K (He.ga K d.D) fd.closure && (PySem.W.codeIn K fd.code d.qual && (fileB K file fd.code && noneB fd.defaults))
  | _ => false) && (PySem.W.clsIn K (He.ga K d.D)).isSome
theorem cellB_ok {K : PySem.W.Frag} {D : Addr} {l : List (Str × Addr)} (h : cellB K D l = true) : ∃ cc, l = ([("__class__", cc)] : List (Str × Addr)) ∧ ∃ cl cld csl, K.lookup cc = some ⟨cl, cld, .cell (some (.ref D)), csl⟩ := by
  unfold cellB at h
  split at h
  · rename_i x cc
    obtain ⟨h1, h2⟩ := He.ba h
    have ex : x = ("__class__" : Str) := eq_of_beq h1
    subst ex
    refine ⟨cc, rfl, ?_⟩
    split at h2
    · rename_i c1 d1 E s1 e
      have : E = D := of_decide_eq_true h2
      subst this
      exact ⟨_, _, _, e⟩
    · cases h2
  · cases h
theorem fileB_ok {K : PySem.W.Frag} {file : Str} {v : Value} (h : fileB K file v = true) : ∃ cda, v = .ref cda ∧ ∃ ccl cdd ccs vs f tf, K.lookup cda = some ⟨ccl, cdd, .fields vs, ccs⟩ ∧ vs[2]? = some (.str f tf) ∧ (file == f) = true := by
  unfold fileB at h
  split at h
  · rename_i cda
    split at h
    · rename_i c1 d1 vs s1 e
      split at h
      · rename_i f tf e2
        exact ⟨cda, rfl, _, _, _, vs, f, tf, e, e2, h⟩
      · cases h
    · cases h
  · cases h
theorem SuD.at {P : Program} {K : PySem.W.Frag} {mg : Str → Option Value} {d : SuD} {file : Str} (e : fnS K d.at_ = d.val) (c : d.ok file K = true) (hf : P.main.file = file) (hs : mg "super" = none) (ht : PySem.W.nsIn K cStatics "thirdparty.any" = some none) :
    ∃ cc cda fd, SupAt P K mg (He.fAd K d.at_) cc cda (He.ga K d.D) d.name d.qual d.params d.body d.scope fd := by
  subst hf
  obtain ⟨c1, c2⟩ := He.ba c
  unfold fnS at e
  cases q : K.lookup (He.fAd K d.at_) with
  | none => rw [q] at c1; cases c1
  | some o =>
    obtain ⟨oc, od, dt, osl⟩ := o
    rw [q] at c1 e
    cases dt with
    | func fd =>
      obtain ⟨h1, h2⟩ := He.ba (show (cellB K (He.ga K d.D) fd.closure && (PySem.W.codeIn K fd.code d.qual && (fileB K P.main.file fd.code && noneB fd.defaults))) = true from c1)
      obtain ⟨h3, h5⟩ := He.ba h2
      obtain ⟨h4, h6⟩ := He.ba h5
      have edf := noneB_ok h6
      obtain ⟨cc, ec, cell⟩ := cellB_ok h1
      obtain ⟨cda, ed, cd⟩ := fileB_ok h4
      obtain ⟨n1, n2, n3, n4, n5, n6, n7, n8, n9, n10, n11, n12, n13, n14, n15⟩ := fd
      have e2 : (some (n1, n2, n3, n4, n5, n6, n15) : FnS) = some (d.name, d.qual, d.params, .stmts d.body, d.scope, mainGlobals, builtinsNs) := e
      simp only [Option.some.injEq, Prod.mk.injEq] at e2
      obtain ⟨a1, a2, a3, a4, a5, a6, a7⟩ := e2
      dsimp only at ec ed edf
      subst a1 a2 a3 a4 a5 a6 a7 ec ed edf
      refine ⟨cc, cda, _, ⟨⟨n9, n10, n11, n12, n14, rfl⟩, ⟨oc, od, osl, q⟩, h3, cd, cell, ?_, hs, ht⟩⟩
      cases z : PySem.W.clsIn K (He.ga K d.D) with
      | none => rw [z] at c2; cases c2
      | some cd => exact ⟨cd, rfl⟩
    | _ => cases c1
/-- an exception class over ValueError -/
def oexB (K : PySem.W.Frag) (C : Addr) : Bool := (match K.lookup C with
  | some ⟨.type "type", _, .cls cd, sl⟩ => (match cd.mro, sl.toList with
    | .ref C' :: bm, [_, _, _, _, some (.builtin n), _] => decide (C' = C) && (decide (n = "ValueError.__new__") && (!cd.hasDel && (cd.hasDict && PySem.HandSPX.refsVE bm)))
    | _, _ => false)
  | _ => false) && (decide (PySem.W.findIn K (.ref C) "__setattr__" = some (some (.builtin "object.__setattr__"))) && (decide (PySem.W.subIn K (.ref C) (.type "BaseException") = some true) && (decide (PySem.W.typeIn K (.ref C) = some (.type "type")) && PySem.W.keepIn K (.ref C))))
theorem oexB_ok {K : PySem.W.Frag} {C : Addr} (h : oexB K C = true) : OexC K C := by
  obtain ⟨h1, h2⟩ := He.ba h
  obtain ⟨h3, h4⟩ := He.ba h2
  obtain ⟨h5, h6⟩ := He.ba h4
  obtain ⟨h7, h8⟩ := He.ba h6
  refine ⟨?_, of_decide_eq_true h3, of_decide_eq_true h5, of_decide_eq_true h7, h8⟩
  split at h1
  · rename_i dd cd sl ho
    split at h1
    · rename_i C' bm k0 k1 k2 k3 n k5 hm hs
      obtain ⟨a1, b1⟩ := He.ba h1
      obtain ⟨a2, b2⟩ := He.ba b1
      obtain ⟨a3, b3⟩ := He.ba b2
      obtain ⟨a4, b4⟩ := He.ba b3
      have e1 : C' = C := of_decide_eq_true a1
      have e2 : n = "ValueError.__new__" := of_decide_eq_true a2
      have e3 : cd.hasDel = false := by simpa using a3
      subst e1 e2
      obtain ⟨nm, bs, mro, ns, qn, hd, sn, sub, ab, col, del⟩ := cd
      dsimp only at hm e3 a4
      subst hm e3 a4
      have hsl : sl = #[k0, k1, k2, k3, some (.builtin "ValueError.__new__"), k5] := by
        obtain ⟨l⟩ := sl
        have hs : l = _ := hs
        rw [hs]
      subst hsl
      exact ⟨nm, qn, ns, bs, bm, sn, sub, ab, col, dd, k0, k1, k2, k3, k5, ho, b4⟩
    · cases h1
  · cases h1
/-- its instances are made by D's __init__, which says super() -/
def rsB (K : PySem.W.Frag) (x D : Str) : Bool := oexB K (He.ga K x) && (decide (PySem.W.nsIn K mainGlobals x = some (some (.ref (He.ga K x)))) && (decide (PySem.W.findIn K (.ref (He.ga K x)) "what" = some none) && (decide (PySem.W.mroIn K (He.ga K x) (.ref (He.ga K D)) = some true) &&
  (decide (PySem.W.ks_superIn K (He.ga K x) (He.ga K D) "__init__" = some (some (.builtin "ValueError.__init__"))) && (decide (PySem.W.subIn K (.ref (He.ga K x)) (.type "ValueError") = some true) &&
  (decide (PySem.W.findIn K (.ref (He.ga K x)) "__init__" = some (some (.ref (He.fAd K (D, some "__init__"))))) && decide (PySem.W.typeIn K (.ref (He.fAd K (D, some "__init__"))) = some (.type "function"))))))))
theorem rsB_ok {P : Program} {w : World} {K : PySem.W.Frag} {h : Heap} {mg : Str → Option Value} {base : Heap} {k : Nat} {x D : Str} {fd : FuncData} (X : K.In h) (G : h.Ns mainGlobals mg) (c : rsB K x D = true) (hb : Binds K fd ["self", "what"] [])
    (F : FnOk P w K mg base (L2.CX P w) k (He.fAd K (D, some "__init__")) fd ["self", "what"] (spSup K (He.ga K D))) : RsOk P w K mg base k x (He.ga K x) (He.ga K D) := by
  obtain ⟨h1, c⟩ := He.ba c
  obtain ⟨h2, c⟩ := He.ba c
  obtain ⟨h3, c⟩ := He.ba c
  obtain ⟨h4, c⟩ := He.ba c
  obtain ⟨h5, c⟩ := He.ba c
  obtain ⟨h6, c⟩ := He.ba c
  obtain ⟨h7, h8⟩ := He.ba c
  exact ⟨⟨_, fd, PySem.W.mg_of X G (of_decide_eq_true h2), oexB_ok h1, of_decide_eq_true h7, of_decide_eq_true h8, hb, F⟩, of_decide_eq_true h3, of_decide_eq_true h4, of_decide_eq_true h5, of_decide_eq_true h6⟩
theorem rsB_glo {K : PySem.W.Frag} {h : Heap} {mg : Str → Option Value} {x D : Str} (X : K.In h) (G : h.Ns mainGlobals mg) (c : rsB K x D = true) : mg x = some (.ref (He.ga K x)) := by
  obtain ⟨h1, c⟩ := He.ba c
  obtain ⟨h2, c⟩ := He.ba c
  exact PySem.W.mg_of X G (of_decide_eq_true h2)
def gdB (K : PySem.W.Frag) (x : Str) : Bool := xfB K (He.ga K x) && decide (PySem.W.findIn K (.ref (He.ga K x)) "what" = some none)
theorem gdB_ok {K : PySem.W.Frag} {x : Str} (c : gdB K x = true) : gdOf K (He.ga K x) := by
  obtain ⟨h1, h2⟩ := He.ba c
  exact ⟨xfB_ok h1, of_decide_eq_true h2⟩
def emB (K : PySem.W.Frag) (x y : Str) (b : Bool) : Bool := decide (PySem.W.exmOne K (.ref (He.ga K x)) (.ref (He.ga K y)) = some b)
theorem emB_ok {K : PySem.W.Frag} {x y : Str} {b : Bool} (c : emB K x y b = true) : emOf K (He.ga K x) (He.ga K y) = some b := of_decide_eq_true c
def statB (K : PySem.W.Frag) : Bool := decide (PySem.W.nsIn K cStatics "thirdparty.any" = some none)
/-! ### the Hook -/
abbrev AlX : Type := He.AlD × Bool × List FnS
def obsX (file : Str) (fa : List He.Fa) (fn : List He.DefD) (fx : List (PySem.W.Frag → Bool)) (fs : List SuD) (K : PySem.W.Frag) : AlX := (He.obsD fa fn K, (fx.all fun f => f K) && fs.all fun d => d.ok file K, fs.map fun d => fnS K d.at_)
def valX (fn : List He.DefD) (fs : List SuD) : AlX := (He.valD fn, true, fs.map SuD.val)
def KX (n : Nat) (g : Addr → Option Obj) : PySem.W.Frag := He.frG g (He.asD g n ++ [cStatics])
structure SaysX (file : Str) (fa : List He.Fa) (fn : List He.DefD) (fx : List (PySem.W.Frag → Bool)) (fs : List SuD) (K : PySem.W.Frag) : Prop where
  all : obsX file fa fn fx fs K = valX fn fs
def hookX (n : Nat) (file : Str) (fa : List He.Fa) (fn : List He.DefD) (fx : List (PySem.W.Frag → Bool)) (fs : List SuD) : PySem.W.Hook where
  α := AlX
  obs := fun s => obsX file fa fn fx fs (KX n s.heap.get?)
  val := fun _ => valX fn fs
  says := fun _ h => ∃ K : PySem.W.Frag, K.In h ∧ SaysX file fa fn fx fs K
  of := fun _ _ e => ⟨_, He.frG_in, ⟨e⟩⟩
  keeps := fun _ _ _ ⟨K, hK, c⟩ k => ⟨K, PySem.W.Frag.In.keeps hK k, c⟩
def obX (n : Nat) (file : Str) (fa : List He.Fa) (fn : List He.DefD) (fx : List (PySem.W.Frag → Bool)) (fs : List SuD) (g : Addr → Option Obj) : AlX := obsX file fa fn fx fs (KX n g)
theorem obX_eq {n : Nat} {file : Str} {fa : List He.Fa} {fn : List He.DefD} {fx : List (PySem.W.Frag → Bool)} {fs : List SuD} {g : Addr → Option Obj} {s : Shared} (h : ∀ a, g a = s.heap.get? a) : obX n file fa fn fx fs g = (hookX n file fa fn fx fs).obs s := by
  have e : g = s.heap.get? := funext h
  rw [e]; rfl
section
variable {file : Str} {fa : List He.Fa} {fn : List He.DefD} {fx : List (PySem.W.Frag → Bool)} {fs : List SuD} {K : PySem.W.Frag}
theorem SaysX.d (c : SaysX file fa fn fx fs K) : He.SaysD fa fn K := congrArg Prod.fst c.all
theorem SaysX.x (c : SaysX file fa fn fx fs K) (i : Nat) {f : PySem.W.Frag → Bool} (h : fx[i]? = some f := by rfl) : f K = true := by
  have c1 := (He.ba (show ((fx.all fun f => f K) && fs.all fun d => d.ok file K) = true from congrArg (fun z : AlX => z.2.1) c.all)).1
  exact List.all_eq_true.mp c1 f (List.mem_of_getElem? h)
theorem SaysX.s (c : SaysX file fa fn fx fs K) (i : Nat) {d : SuD} (h : fs[i]? = some d := by rfl) : fnS K d.at_ = d.val ∧ d.ok file K = true := by
  have c1 := (He.ba (show ((fx.all fun f => f K) && fs.all fun d => d.ok file K) = true from congrArg (fun z : AlX => z.2.1) c.all)).2
  have c2 : (fs.map fun d => fnS K d.at_) = fs.map SuD.val := congrArg (fun z : AlX => z.2.2) c.all
  have e : (fs.map fun d => fnS K d.at_)[i]? = (fs.map SuD.val)[i]? := by rw [c2]
  rw [List.getElem?_map, List.getElem?_map, h] at e
  exact ⟨Option.some.inj e, List.all_eq_true.mp c1 d (List.mem_of_getElem? h)⟩
end
end DL
namespace DL
open PySem PySem.Spec PyProof.Rows L2

/-! ## sorted: tuples of a number and a text, numbers unlike -/
def IsNT (h : Heap) (v : Value) (x : Int) (y : Str) : Prop := ∃ a o t u n, v = .ref a ∧ h.get? a = some o ∧ o.cls = .type "tuple" ∧ o.data = .seq #[.int x t, .str y u] n
theorem IsNT.keeps {h h' : Heap} {v : Value} {x : Int} {y : Str} (p : IsNT h v x y) (k : ∀ b o, h.get? b = some o → o.cls = .type "tuple" → h'.get? b = some o) : IsNT h' v x y := by
  obtain ⟨a, o, t, u, n, e, ho, hc, hd⟩ := p
  exact ⟨a, o, t, u, n, e, k _ _ ho hc, hc, hd⟩
theorem IsNT.inj {h : Heap} {v : Value} {x x' : Int} {y y' : Str} (p : IsNT h v x y) (q : IsNT h v x' y') : x = x' ∧ y = y' := by
  obtain ⟨a, o, t, u, n, rfl, ho, hc, hd⟩ := p
  obtain ⟨a', o', t', u', n', e, ho', hc', hd'⟩ := q
  cases e
  rw [ho] at ho'
  cases ho'
  rw [hd] at hd'
  injection hd' with e1 _
  have e2 := congrArg Array.toList e1
  simp at e2
  exact ⟨e2.1.1, e2.2.1⟩
section
variable {prog : Program} {w : World} {A : Around} {E : Value → Shared → Prop} {s : Shared}
theorem nt_swo (k : Value → Int) : SrtO.Swo fun v u => decide (k v < k u) := by
  refine ⟨fun x y h => ?_, fun x y z h1 h2 => ?_⟩
  · have := of_decide_eq_true h
    exact decide_eq_false (by omega)
  · have a := of_decide_eq_false h1
    have b := of_decide_eq_false h2
    exact decide_eq_false (by omega)
theorem nt_cmp {vs : List Value} {k : Value → Int} {m : Value → Str} (hp : ∀ v ∈ vs, IsNT s.heap v (k v) (m v)) (hu : ∀ v ∈ vs, ∀ u ∈ vs, k v = k u → m v = m u) : SrtO.Cmp prog w A s (tuples' true) (fun p => p.1 ∈ vs) (SrtO.lt2 fun v u => decide (k v < k u)) := by
  intro p q hm hm'
  have h1 := hp _ hm
  have h2 := hp _ hm'
  have h3 := hu _ hm _ hm'
  show wpAny (model prog w) A (keyLt' (tuples' true) p.1 q.1) (fun r s' => s' = s ∧ r = decide (k p.1 < k q.1)) (fun _ _ => False) s
  generalize k p.1 = x at h1 h3 ⊢
  generalize m p.1 = y at h1 h3 ⊢
  generalize k q.1 = x' at h2 h3 ⊢
  generalize m q.1 = y' at h2 h3 ⊢
  obtain ⟨a, o, t, u, n, e, ho, hc, hd⟩ := h1
  obtain ⟨a', o', t', u', n', e', ho', hc', hd'⟩ := h2
  rw [e, e']
  refine PySem.W.kat_lt ho hd ho' hd' ?_
  show PySem.W.KatLex prog w A true (decide (2 < 2)) _ [(.int x t, .int x' t'), (.str y u, .str y' u')] 0 s
  refine PySem.W.kat_cons (SeqAt.EqAt.int_int x t x' t' prog w _ _ ?_)
  refine PySem.W.kat_go (fun e1 => ?_) (fun e1 => ?_)
  · have ex : x = x' := by simpa using e1
    have ey := h3 ex
    refine PySem.W.kat_yes (PySem.W.kat_cons (SeqAt.EqAt.str_str y u y' u' prog w _ _ ?_))
    refine PySem.W.kat_go (fun e2 => ?_) (fun e2 => ?_)
    · have e3 : decide (x < x') = false := by rw [ex]; exact decide_eq_false (Int.lt_irrefl _)
      exact PySem.W.kat_yes (PySem.W.kat_nil ⟨rfl, e3.symm⟩)
    · exact absurd (by simpa using ey) (by simpa using e2)
  · exact PySem.W.kat_no (oneLt_int ⟨rfl, rfl⟩)
theorem nt_firsts {h : Heap} : ∀ {vs : List Value}, (∀ v ∈ vs, ∃ x y, IsNT h v x y) → ∃ fs : List Value, PySem.W.KatTups h vs fs ∧ fs.length = vs.length ∧ ∀ f ∈ fs, ∃ x t, f = Value.int x t
  | [], _ => ⟨[], PySem.W.KatTups.nil, rfl, fun _ hm => by simp at hm⟩
  | v :: vs, hp => by
    obtain ⟨fs, h1, h2, h3⟩ := nt_firsts (vs := vs) fun v' hm => hp v' (List.mem_cons_of_mem _ hm)
    obtain ⟨x, y, a, o, t, u, n, e, ho, hc, hd⟩ := hp v (List.mem_cons_self ..)
    subst e
    refine ⟨.int x t :: fs, PySem.W.KatTups.cons ho hc hd rfl h1, by rw [List.length_cons, List.length_cons, h2], fun f hm => ?_⟩
    rcases List.mem_cons.mp hm with rfl | hm
    · exact ⟨x, t, rfl⟩
    · exact h3 f hm
theorem nt_sortable {a : Addr} {vs : List Value} {k : Value → Int} {m : Value → Str} (h0 : 0 < vs.length) (hp : ∀ v ∈ vs, IsNT s.heap v (k v) (m v)) (hu : ∀ v ∈ vs, ∀ u ∈ vs, k v = k u → m v = m u) (ha : ∀ o, s.heap.get? a = some o → o.cls ≠ .type "tuple") : SrtO.SortableO prog w A s a vs fun v u => decide (k v < k u) := by
  intro h' keep
  have hp' : ∀ v ∈ vs, IsNT h' v (k v) (m v) := fun v hm => (hp v hm).keeps fun b o e c => keep b o (fun z => by subst z; exact ha o e c) e
  obtain ⟨fs, h1, h2, h3⟩ := nt_firsts fun v hm => ⟨_, _, hp' v hm⟩
  refine ⟨tuples' true, fun Q E hq => ?_, nt_cmp hp' hu⟩
  refine PySem.W.kat_kind (T := .type "int") h1 (by omega) (fun f hm => ?_) (by rfl) ?_
  · obtain ⟨x, t, rfl⟩ := h3 f hm
    exact PySem.W.Looks.now
  · have e : (Value.type "int" != Value.type "tuple") = true := by first | decide +kernel | rfl | decide
    rw [e]
    exact hq
theorem nt_sorted {l : Addr} {vs : List Value} {k : Value → Int} {m : Value → Str} {Q : Value → Shared → Prop} (hl : s.heap.IsList l vs.toArray) (hz : vs.length ≤ sizeLine) (hp : ∀ v ∈ vs, IsNT s.heap v (k v) (m v)) (hu : ∀ v ∈ vs, ∀ u ∈ vs, k v = k u → m v = m u)
    (h : ∀ (h' : Heap) (d : Addr) (out : List Value), SrtO.Srtd (fun v u => decide (k v < k u)) out → out.Perm vs → (∀ b o, s.heap.get? b = some o → h'.get? b = some o) → s.heap.objs.size ≤ d → (∃ n, h'.get? d = some (seqObj "list" out.toArray n)) → Q (.ref d) { s with heap := h' }) :
    wpAny (model prog w) A (call (.builtin "sorted") [.ref l]) Q E s := by
  refine SrtO.sorted_ord (nt_swo k) hl hz (fun h2 h₁ a ha kk => ?_) fun out hs hb => ?_
  · refine nt_sortable (s := { s with heap := h₁ }) (by omega) (fun v hm => (hp v hm).keeps fun b o e _ => (kk b o e).2) hu fun o e => ?_
    have e' : some o = some (seqObj "list" vs.toArray 0) := e.symm.trans ha
    cases e'
    intro c
    exact absurd (Value.type.inj c) (by decide)
  · exact h _ _ out hs hb.perm (fun b o e => sortedAll_old e) (Nat.le_succ _) (sortedAll_at s.heap vs out.toArray)
end
def NTv (K : PySem.W.Frag) (H : Hp) (x : V) (i : Int) (z : Str) : Prop := ∃ t, x = .ref t ∧ SqT K H t [V.int i, V.str z]
def rSortNT (K : PySem.W.Frag) : List V → Hp → VK → Prop := fun vs H Q => ∃ (a : Addr) (xs : List V) (d : V → Int × Str), vs = [V.ref a] ∧ SqL K H a xs ∧ (∀ x ∈ xs, NTv K H x (d x).1 (d x).2) ∧ (∀ x ∈ xs, ∀ y ∈ xs, (d x).1 = (d y).1 → (d x).2 = (d y).2) ∧
  ∀ (ys : List V) (p : Addr), ys.Perm xs → ys.Pairwise (fun x y => ∀ i z j z', NTv K H x i z → NTv K H y j z' → i ≤ j) → H p = none → Q (.ref p) (upd H p (.lst ys))
theorem nt_raw {X : Cx} {pins : List (Addr × Obj)} {σ : L2.St} {H : Hp} {s : Shared} (I : Inv X pins σ H s) {x : V} {v : Value} {i : Int} {z : Str} (h : NTv X.K H x i z) (r : RelV x v) : IsNT s.heap v i z := by
  obtain ⟨t, rfl, hq⟩ := h
  cases (show v = Value.ref t from r)
  obtain ⟨its, rv, ⟨o, ho, hc, n, hd⟩, _⟩ := I.tuple hq
  obtain ⟨u1, u2, rfl, r1, r2⟩ := vals2 rv
  obtain ⟨t1, rfl⟩ := (show ∃ t, u1 = Value.int i t from r1)
  obtain ⟨t2, rfl⟩ := (show ∃ t, u2 = Value.str z t from r2)
  exact ⟨t, o, t1, t2, n, rfl, ho, hc, hd⟩
open Classical in
theorem cr_sortNT {X : Cx} : CallR X (.builtin "sorted") (rSortNT X.K) := by
  intro pins s σ H vs us Q I r h
  obtain ⟨a, xs, dd, rfl, hs, hx, hxu, q⟩ := h
  obtain ⟨its, rv, hl, hz⟩ := I.list hs
  rw [Vals.ref1 r]
  obtain ⟨e1, e2⟩ := bkV_refs rv fun x m => by
    obtain ⟨t, e, _⟩ := hx x m
    exact ⟨t, e⟩
  have raw : ∀ v ∈ its, ∃ x ∈ xs, IsNT s.heap v (dd x).1 (dd x).2 := fun v hv => by
    obtain ⟨t, rfl⟩ := e2 v hv
    have hm : V.ref t ∈ xs := by rw [e1]; exact List.mem_map.mpr ⟨_, hv, rfl⟩
    exact ⟨_, hm, nt_raw I (hx _ hm) rfl⟩
  have hex : ∀ v : Value, ∃ p : Int × Str, v ∈ its → IsNT s.heap v p.1 p.2 := fun v => by
    by_cases hv : v ∈ its
    · obtain ⟨x, _, h⟩ := raw v hv
      exact ⟨dd x, fun _ => h⟩
    · exact ⟨(0, ""), fun h => absurd h hv⟩
  let kf : Value → Int × Str := fun v => Classical.choose (hex v)
  have hk : ∀ v ∈ its, IsNT s.heap v (kf v).1 (kf v).2 := fun v hv => Classical.choose_spec (hex v) hv
  refine nt_sorted (k := fun v => (kf v).1) (m := fun v => (kf v).2) hl.isList (by rw [← rv.length]; exact hz) hk (fun v hv u hu he => ?_) fun h' d out h1 h2 kp hd hn => ?_
  · obtain ⟨x, hx1, m1⟩ := raw v hv
    obtain ⟨y, hy1, m2⟩ := raw u hu
    obtain ⟨a1, a2⟩ := (hk v hv).inj m1
    obtain ⟨b1, b2⟩ := (hk u hu).inj m2
    show (kf v).2 = (kf u).2
    rw [a2, b2]
    refine hxu x hx1 y hy1 ?_
    rw [← a1, ← b1]
    exact he
  · have h3 : ∀ u ∈ out, ∃ a, u = Value.ref a := fun u hu => e2 u (h2.mem_iff.mp hu)
    obtain ⟨n, hn⟩ := hn
    have hp : (out.map bkV).Perm xs := by rw [e1]; exact h2.map bkV
    have hlen : (out.map bkV).length ≤ sizeLine := by rw [hp.length_eq]; exact hz
    refine ⟨.ref d, upd H d (.lst (out.map bkV)), I.laid (t' := s.toks) kp hd ⟨hlen, out, n, bkV_vals h3, hn⟩, rfl, q _ d hp ?_ (I.hok.fresh hd)⟩
    rw [List.pairwise_map]
    have h1' : out.Pairwise fun u v => decide ((kf v).1 < (kf u).1) = false := h1
    refine List.Pairwise.imp_of_mem (fun {u v} hu hv huv i z j z' hn hm => ?_) h1'
    have hu' := h2.mem_iff.mp hu
    have hv' := h2.mem_iff.mp hv
    obtain ⟨ta, rfl⟩ := e2 u hu'
    obtain ⟨tb, rfl⟩ := e2 v hv'
    obtain ⟨a1, _⟩ := (hk _ hu').inj (nt_raw I hn rfl)
    obtain ⟨b1, _⟩ := (hk _ hv').inj (nt_raw I hm rfl)
    have := of_decide_eq_false huv
    omega
def ntD (p : Int × Str) : D := .tup [.int p.1, .str p.2]
def wSortNT (m : NewM) : DC := fun ds cs Φ => match ds with
  | [x] => ∃ (xs : List D) (ps : List (Int × Str)), lq cs x = some xs ∧ xs = ps.map ntD ∧ (∀ p ∈ ps, ∀ q ∈ ps, p.1 = q.1 → p.2 = q.2) ∧ ∀ ps' : List (Int × Str), ps'.Perm ps → ps'.Pairwise (fun p q => p.1 ≤ q.1) → m (ps'.map ntD) cs Φ
  | _ => False
theorem paired_nt {K : PySem.W.Frag} {B : Hp} : ∀ {ps : List (Int × Str)} {vs : List V}, DtA K B vs (ps.map ntD) → Paired (fun v p => Dt K B v (ntD p)) vs ps
  | [], _, .nil => .nil
  | _ :: _, _, .cons a b => .cons a (paired_nt b)
theorem nt_paired {K : PySem.W.Frag} {B : Hp} : ∀ {ps : List (Int × Str)} {vs : List V}, Paired (fun v p => Dt K B v (ntD p)) vs ps → DtA K B vs (ps.map ntD)
  | [], _, .nil => .nil
  | _ :: _, _, .cons a b => .cons a (nt_paired b)
theorem ntv_of {K : PySem.W.Frag} {H : Hp} {cs : Cs} {F : Hp} {v : V} {p : Int × Str} (h : Dt K (hid H cs F) v (ntD p)) : NTv K H v p.1 p.2 := by
  cases h with
  | tup sa ta => cases ta with
    | cons a t => cases a; cases t with
      | cons b t => cases b; cases t; exact ⟨_, rfl, same_t hid_sub sa⟩
open Classical in
theorem simSortNT {K : PySem.W.Frag} {m : NewM} (hm : NewOk m) : SimC K (rSortNT K) (wSortNT m) := fun vs ds H cs F Φ Q h r t k => by
  match ds, vs, t, h with
  | [x], _, .cons t .nil, h =>
    obtain ⟨xs, ps, e1, e2, hu, q⟩ := h
    obtain ⟨a, us, rfl, sa, ta⟩ := lq_ok r t e1
    rw [e2] at ta
    have pt := paired_nt ta
    have hex : ∀ v : V, ∃ p : Int × Str, v ∈ us → p ∈ ps ∧ NTv K H v p.1 p.2 := fun v => by
      by_cases hv : v ∈ us
      · obtain ⟨p, hp, tv⟩ := paired_left pt v hv
        exact ⟨p, fun _ => ⟨hp, ntv_of tv⟩⟩
      · exact ⟨(0, ""), fun h => absurd h hv⟩
    refine ⟨a, us, fun v => Classical.choose (hex v), rfl, sa, fun v hv => (Classical.choose_spec (hex v) hv).2, fun v hv u hu' he => hu _ (Classical.choose_spec (hex v) hv).1 _ (Classical.choose_spec (hex u) hu').1 he, fun ys p hy pw hp => ?_⟩
    obtain ⟨ps', pm, pt'⟩ := paired_perm hy pt
    have pw2 := paired_pw (T := fun (p q : Int × Str) => p.1 ≤ q.1) (fun a b c d ra rb s => s _ _ _ _ (ntv_of ra) (ntv_of rb)) pt' pw
    obtain ⟨z, cs', hz, r1, s1, q1⟩ := hm.new K H cs F _ _ p Φ (q ps' pm pw2) r (nt_paired pt') hp
    exact k z cs' _ _ hz r1 s1 q1
end DL
namespace DL
open PySem PySem.Spec PyProof.Rows L2

/-! ## plain tuples -/
theorem Dt.weak {K : PySem.W.Frag} {B : Hp} {v : V} {ds : List D} (h : Dt K B v (.pt ds)) : Dt K B v (.tup ds) := by
  cases h with
  | pt h c d t => exact .tup (.inl (.inr ⟨_, h⟩)) t
def unp : D → D
  | .pt ds => .tup ds
  | d => d
theorem Dt.unp {K : PySem.W.Frag} {B : Hp} {v : V} {d : D} (h : Dt K B v d) : Dt K B v (DL.unp d) := by
  cases d with
  | pt ds => exact h.weak
  | _ => exact h
/-- a plain tuple is a tuple -/
def dWeak (w : DE) : DE := fun ρ cs Φ Ψ => w ρ cs (fun d cs' => Φ (unp d) cs') Ψ
theorem qe_weak {X : Cx} {W : WX} {e : Expr} {te : TE} {we : DE} (h : QE X W e te we) : QE X W e te (dWeak we) :=
  ⟨h.pe, fun ρ cs Φ Ψ σ H F Q hw R L k => h.sim ρ cs _ Ψ σ H F Q hw R L fun d cs' v H' q R' s' td => k (unp d) cs' v H' q R' s' td.unp⟩
/-- tuple(l) of a list -/
def rTupP (K : PySem.W.Frag) : List V → Hp → VK → Prop := fun xs H Q => ∃ p ys, xs = [.ref p] ∧ SqL K H p ys ∧ ∀ (l : Addr) (o : Obj), H l = none → o.cls = .type "tuple" → o.dict = none → Q (.ref l) (upd H l (.frz o (.tup ys)))
theorem cr_tupP {X : Cx} : CallR X (.type "tuple") (rTupP X.K) := by
  intro pins s σ H xs us Q I r h
  obtain ⟨p, ys, rfl, hq, q⟩ := h
  obtain ⟨u, rfl, rx⟩ := vals1 r
  cases rx
  obtain ⟨its, r', pl, hz⟩ := I.list hq
  have hlen := r'.length
  refine call_tuple_list pl.isList (fun h' kp => ?_) (by simp only [List.size_toArray] <;> omega)
  have I1 : Inv X pins σ H { s with heap := h' } := I.kept (t' := s.toks) kp
  have hn : (h'.push { cls := .type "tuple", data := .seq its.toArray }).get? h'.objs.size = some { cls := .type "tuple", data := .seq its.toArray } := Heap.get?_push_size _ rfl
  have I2 : Inv X pins σ (upd H h'.objs.size (.frz { cls := .type "tuple", data := .seq its.toArray } (.tup ys))) { s with heap := h'.push { cls := .type "tuple", data := .seq its.toArray } } :=
    I1.laid (t' := s.toks) (fun b o e => Heap.get?_push_of_some _ e) (Nat.le_refl _) (show ObjOk X.prog X.w _ _ _ (.frz _ (.tup ys)) from ⟨hn, hz, its, r', IsTup.new _ _⟩)
  exact ⟨.ref h'.objs.size, _, I2, rfl, q _ _ (I1.hok.fresh (Nat.le_refl _)) rfl rfl⟩
def wTupP : DC := fun ds cs Φ => match ds with
  | [d] => ∃ xs, lq cs d = some xs ∧ Φ (.pt xs) cs
  | _ => False
theorem simTupP {K : PySem.W.Frag} : SimC K (rTupP K) wTupP := fun vs ds H cs F Φ Q h r t k => by
  match ds, vs, t, h with
  | [d], _, .cons t .nil, h =>
    obtain ⟨xs, e1, q⟩ := h
    obtain ⟨a, us, rfl, sa, ta⟩ := lq_ok r t e1
    refine ⟨a, us, rfl, sa, fun l o hl hc hd => ?_⟩
    obtain ⟨r1, s1, q1⟩ := r.new (o := .frz o (.tup us)) hl
    exact k _ cs _ _ q r1 s1 (.pt q1 hc hd (ta.mono s1.base))

/-! ## dict(pairs) -/
theorem pairs_of2 {X : Cx} {pins : List (Addr × Obj)} {σ : L2.St} {H : Hp} {s : Shared} (I : Inv X pins σ H s) : ∀ {ps : List Addr} {kvs : List (Key × V)}, Paired (fun p kv => SqT X.K H p [kV kv.1, kv.2]) ps kvs →
    ∃ (prs : List (Key × Value)) (us : List (Value × Value)), KV kvs prs ∧ prs.length = ps.length ∧ us.length = ps.length ∧ ∀ (j : Nat) (k v : Value), us[j]? = some (k, v) → ∃ (b : Addr) (key : Key), ps[j]? = some b ∧ IsTup s.heap b #[k, v] ∧ prs[j]? = some (key, v) ∧ keyIs key k = true
  | _, _, .nil => ⟨[], [], .nil, rfl, rfl, fun j k v e => by simp at e⟩
  | _, _, .cons (a := p) (b := kv) h t => by
    obtain ⟨prs, us, r, hl, hl2, hp⟩ := pairs_of2 I t
    obtain ⟨its, rv, ht, _⟩ := I.tuple h
    obtain ⟨u, y, ei, ru, ry⟩ := vals2 rv
    subst ei
    refine ⟨(kv.1, y) :: prs, (u, y) :: us, .cons ⟨rfl, ry⟩ r, by rw [List.length_cons, List.length_cons, hl], by rw [List.length_cons, List.length_cons, hl2], fun j k v e => ?_⟩
    cases j with
    | zero =>
      have e' : (u, y) = (k, v) := Option.some.inj e
      cases e'
      exact ⟨p, kv.1, rfl, ht, rfl, kV_is (P := X.prog) (w := X.w) ru⟩
    | succ j =>
      obtain ⟨b, key, e1, e2, e3, e4⟩ := hp j k v (by simpa using e)
      exact ⟨b, key, by simpa using e1, e2, by simpa using e3, e4⟩
def rDictP (K : PySem.W.Frag) : List V → Hp → VK → Prop := fun xs H Q => ∃ (a : Addr) (ps : List Addr) (kvs : List (Key × V)), xs = [.ref a] ∧ (SqL K H a (ps.map V.ref) ∨ ∃ o, H a = some (.frz o (.tup (ps.map V.ref))) ∧ o.cls = .type "tuple" ∧ o.dict = none) ∧ Paired (fun p kv => SqT K H p [kV kv.1, kv.2]) ps kvs ∧
    ∀ p, H p = none → Q (.ref p) (upd H p (.dK (mergeK [] kvs)))
theorem cr_dictP {X : Cx} (hcalm : X.calm = true) : CallR X (.type "dict") (rDictP X.K) := by
  intro pins s σ H xs us Q I r q
  obtain ⟨a, ps, kvs, ex, hq | ⟨o, ho, hc, hd⟩, hp, q⟩ := q
  · exact call_dictP hcalm pins s σ H xs us Q I r ⟨a, ps, kvs, ex, hq, hp, q⟩
  · subst ex
    obtain ⟨u, eu, rx⟩ := vals1 r
    subst eu
    cases rx
    obtain ⟨hx, hz, its, rv, hT⟩ := (show ObjOk X.prog X.w H s.heap a (.frz o (.tup (ps.map V.ref))) from I.hok a _ ho)
    have ei := refs_at rv
    subst ei
    rw [List.length_map] at hz
    obtain ⟨o', ho', hc', n, hdat⟩ := hT
    rw [hx] at ho'
    cases ho'
    obtain ⟨prs, us, rel, hl, hl2, hpr⟩ := pairs_of2 I hp
    have P := PySem.PairArg.tuple (prog := X.prog) (w := X.w) a (ps.map Value.ref).toArray (fun j => ps.getD j 0) us
    refine PySem.call_dict_pairs (knd := mixKind X.prog X.w) (kvs := prs) P (I.ok.hd hcalm) ⟨⟨o, n, hx, hc, hd, hdat⟩, by simp [hl2], fun j k v e => ?_⟩ ⟨by rw [hl, hl2], fun i key v e => ?_⟩ (by rw [hl2]; exact hz) fun h' tk hd' k => ?_
    · obtain ⟨b, key, e1, e2, e3, e4⟩ := hpr j k v e
      refine ⟨by simp [e1], .inl ?_⟩
      show s.heap.IsTuple (ps.getD j 0) #[k, v]
      rw [List.getD_eq_getElem?_getD, e1]
      obtain ⟨ob, w1, w2, w3⟩ := e2
      exact ⟨ob, w1, w2, w3⟩
    · obtain ⟨b, k, e1, e2, e3, e4⟩ := hpr i key v e
      exact ⟨k, e3, e4⟩
    · have hm : (s.heap.objs.size == sysModules) = false := beq_eq_false_iff_ne.mpr (Nat.ne_of_gt I.big)
      have hlen : (mergeK [] kvs).length ≤ sizeLine := by
        refine Nat.le_trans (length_mergeK kvs []) ?_
        rw [List.length_nil, Nat.zero_add, rel.length, hl]
        exact hz
      exact ⟨.ref s.heap.objs.size, upd H s.heap.objs.size (.dK (mergeK [] kvs)), I.laid (t' := tk) (fun b ob e => k b ob (by simp) e) (Nat.le_refl _) (show ObjOk X.prog X.w _ _ _ (.dK (mergeK [] kvs)) from ⟨hlen, hm, merged [] prs, KV.merge rel .nil, hd'⟩), rfl, q _ (I.hok.fresh (Nat.le_refl _))⟩
def kvD (p : Key × D) : D := .tup [keyD p.1, p.2]
/-- the items of a list, of a plain tuple -/
def lqp (cs : Cs) : D → Option (List D)
  | .pt ds => some ds
  | d => lq cs d
def wDictP : DC := fun ds cs Φ => match ds with
  | [x] => ∃ (xs : List D) (kvs : List (Key × D)), lqp cs x = some xs ∧ xs = kvs.map kvD ∧ ∀ p, cs p = none → Φ (.cell p) (setc cs p (.dict (mergeD [] kvs)))
  | _ => False
theorem keyD_v {K : PySem.W.Frag} {B : Hp} {v : V} : ∀ {k : Key}, Dt K B v (keyD k) → v = kV k
  | .inl i, h => by cases h; rfl
  | .inr x, h => by cases h; rfl
theorem kvs_of {K : PySem.W.Frag} {H : Hp} {cs : Cs} {F : Hp} : ∀ {kvs : List (Key × D)} {vs : List V}, DtA K (hid H cs F) vs (kvs.map kvD) → ∃ (ps : List Addr) (ws : List (Key × V)), vs = ps.map V.ref ∧ Paired (fun p kv => SqT K H p [kV kv.1, kv.2]) ps ws ∧ KvA K (hid H cs F) ws kvs
  | [], _, .nil => ⟨[], [], rfl, .nil, .nil⟩
  | p :: kvs, _, .cons a t => by
    obtain ⟨ps, ws, rfl, h1, h2⟩ := kvs_of t
    cases a with
    | tup sa ta => cases ta with
      | cons a1 t1 => cases t1 with
        | cons a2 t2 =>
          cases t2
          have := keyD_v a1
          subst this
          exact ⟨_ :: ps, (p.1, _) :: ws, rfl, .cons (same_t hid_sub sa) h1, .cons ⟨rfl, a2⟩ h2⟩
theorem simDictP {K : PySem.W.Frag} : SimC K (rDictP K) wDictP := fun vs ds H cs F Φ Q h r t k => by
  match ds, vs, t, h with
  | [x], _, .cons t .nil, h =>
    obtain ⟨xs, kvs, e1, e2, q⟩ := h
    have fin : ∀ (a : Addr) (us : List V), DtA K (hid H cs F) us (kvs.map kvD) → (∀ ps : List Addr, us = ps.map V.ref → (SqL K H a (ps.map V.ref) ∨ ∃ o, H a = some (.frz o (.tup (ps.map V.ref))) ∧ o.cls = .type "tuple" ∧ o.dict = none)) → rDictP K [.ref a] H Q := fun a us ta hs => by
      obtain ⟨ps, ws, e, h1, h2⟩ := kvs_of ta
      refine ⟨a, ps, ws, rfl, hs ps e, h1, fun p hp => ?_⟩
      obtain ⟨c1, c2⟩ := r.fresh hp
      obtain ⟨r1, s1⟩ := r.newc (o := .dK (mergeK [] ws)) (c := .dict (mergeD [] kvs)) hp ⟨_, upd_same, h2.merge .nil⟩
      exact k _ _ _ _ (q p c1) r1 s1 (.cell p)
    have other : ∀ {v : V} {d : D}, Dt K (hid H cs F) v d → lq cs d = some xs → rDictP K [v] H Q := fun {v d} t e => by
      obtain ⟨a, us, rfl, sa, ta⟩ := lq_ok r t e
      rw [e2] at ta
      exact fin a us ta fun ps e => .inl (e ▸ sa)
    cases x with
    | pt ds =>
      cases e1
      cases t with
      | pt h c d t =>
        rw [e2] at t
        exact fin _ _ t fun ps e => .inr ⟨_, by rw [← e]; exact hid_sub _ _ h, c, d⟩
    | _ => exact other t e1

/-! ## two dicts that hold the same -/
def rEqDict (f : Bool → Bool) : R2 := fun x y H Q => ∃ (a b : Addr) (ka kb : List (Key × V)), x = .ref a ∧ y = .ref b ∧ H a = some (.dK ka) ∧ H b = some (.dK kb) ∧ ka.length = kb.length ∧ (∀ p ∈ ka, valV kb p.1 = some p.2 ∧ flatB p.2 = true) ∧ Q (.bl (f true)) H
theorem op_eqDict {X : Cx} (hu : X.A.units < cLine) : OpR X (compareOp .Eq) (rEqDict id) := by
  intro pins s σ H x y v u Q I rx ry h
  obtain ⟨a, b, ka, kb, rfl, rfl, ea, eb, hl, hv, q⟩ := h
  obtain rfl : v = Value.ref a := rx
  obtain rfl : u = Value.ref b := ry
  obtain ⟨_, ya, va, ra, da⟩ := (show ObjOk X.prog X.w H s.heap a (.dK ka) from I.hok a _ ea)
  obtain ⟨_, yb, vb, rb, db⟩ := (show ObjOk X.prog X.w H s.heap b (.dK kb) from I.hok b _ eb)
  have hl : va.length = vb.length := by rw [← ra.length, hl, rb.length]
  exact PySem.W.keq_eq (knd := mixKind X.prog X.w) (r := true) ya yb da db hu (fun _ => hits_all rb ra hv) (fin_bl I q (by simp [hl]))
theorem op_neDict {X : Cx} (hu : X.A.units < cLine) : OpR X (compareOp .NotEq) (rEqDict not) := by
  intro pins s σ H x y v u Q I rx ry h
  obtain ⟨a, b, ka, kb, rfl, rfl, ea, eb, hl, hv, q⟩ := h
  obtain rfl : v = Value.ref a := rx
  obtain rfl : u = Value.ref b := ry
  obtain ⟨_, ya, va, ra, da⟩ := (show ObjOk X.prog X.w H s.heap a (.dK ka) from I.hok a _ ea)
  obtain ⟨_, yb, vb, rb, db⟩ := (show ObjOk X.prog X.w H s.heap b (.dK kb) from I.hok b _ eb)
  have hl : va.length = vb.length := by rw [← ra.length, hl, rb.length]
  exact PySem.W.keq_ne (knd := mixKind X.prog X.w) (r := true) ya yb da db hu (fun _ => hits_all rb ra hv) (fin_bl I q (by simp [hl]))
/-- values that are numbers -/
def wEqDict (f : Bool → Bool) : DR := fun x y cs Φ => match x, y with
  | .cell a, .cell b => ∃ ka kb : List (Key × D), cs a = some (.dict ka) ∧ cs b = some (.dict kb) ∧ ka.length = kb.length ∧ (∀ p ∈ ka, ∃ i : Int, p.2 = .int i ∧ vK kb p.1 = some (.int i)) ∧ Φ (.bl (f true)) cs
  | _, _ => False
theorem kva_mem {K : PySem.W.Frag} {B : Hp} {ka : List (Key × D)} {ws : List (Key × V)} (h : KvA K B ws ka) : ∀ q ∈ ws, ∃ p ∈ ka, q.1 = p.1 ∧ Dt K B q.2 p.2 := by
  induction h with
  | nil => intro q hq; simp at hq
  | cons r t ih =>
    intro q hq
    rcases List.mem_cons.mp hq with rfl | hq
    · exact ⟨_, List.mem_cons_self .., r.1, r.2⟩
    · obtain ⟨p, hp, e⟩ := ih q hq
      exact ⟨p, List.mem_cons_of_mem _ hp, e⟩
theorem simEqDict {K : PySem.W.Frag} {f : Bool → Bool} : SimR K (rEqDict f) (wEqDict f) := fun x y d e H cs F Φ Q h r t1 t2 k => by
  match d, e, t1, t2, h with
  | .cell a, .cell b, .cell _, .cell _, ⟨ka, kb, e1, e2, hl, hv, q⟩ =>
    obtain ⟨wa, a1, a2⟩ := r.c a _ e1
    obtain ⟨wb, b1, b2⟩ := r.c b _ e2
    refine ⟨a, b, wa, wb, rfl, rfl, a1, b1, by rw [a2.length, b2.length]; exact hl, fun p hp => ?_, k _ cs _ H q r .refl (.bl _)⟩
    obtain ⟨p', hp', e1, e2⟩ := kva_mem a2 p hp
    obtain ⟨i, ei, ev⟩ := hv p' hp'
    rw [ei] at e2
    obtain ⟨u, eu, hu⟩ := (b2.val p'.1).1 _ ev
    cases hu
    have : p.2 = V.int i := by
      generalize p.2 = z at e2
      cases e2
      rfl
    rw [e1, this]
    exact ⟨eu, rfl⟩

/-! ## sorted(dict), keys numbers -/
def wSortDI (m : NewM) : DC := fun ds cs Φ => match ds with
  | [.cell a] => ∃ (kvs : List (Key × D)) (ks : List Int), cs a = some (.dict kvs) ∧ kvs.map (·.1) = ks.map Sum.inl ∧ ks.length < 64 ∧ ∀ ys : List Int, ys.Perm ks → ys.Pairwise (· ≤ ·) → m (ys.map D.int) cs Φ
  | _ => False
def rSortDI : List V → Hp → VK → Prop := fun xs H Q => ∃ (a : Addr) (kvs : List (Key × V)) (ks : List Int), xs = [.ref a] ∧ Rd H a (.dK kvs) ∧ kvs.map (·.1) = ks.map Sum.inl ∧ ks.length < 64 ∧
    ∀ (ys : List Int) (p : Addr), ys.Perm ks → ys.Pairwise (· ≤ ·) → H p = none → Q (.ref p) (upd H p (.lst (ys.map V.int)))
theorem cr_sortDI {X : Cx} (hc : X.calm = true) : CallR X (.builtin "sorted") rSortDI := call_sortedDI hc
theorem simSortDI {K : PySem.W.Frag} {m : NewM} (hm : NewOk m) : SimC K rSortDI (wSortDI m) := fun vs ds H cs F Φ Q h r t k => by
  match ds, vs, t, h with
  | [.cell a], _, .cons (.cell _) .nil, ⟨kvs, ks, e1, e2, h64, q⟩ =>
    obtain ⟨ws, a1, a2⟩ := r.c a _ e1
    refine ⟨a, ws, ks, rfl, .inl a1, by rw [a2.keys]; exact e2, h64, fun ys p hp ho hh => ?_⟩
    obtain ⟨z, cs', hz, r2, s2, q2⟩ := hm.new K H cs F _ _ p Φ (q ys hp ho) r (DtA.map_int ys) hh
    exact k z cs' _ _ hz r2 s2 q2
theorem cr_tupPK {X : Cx} {K : PySem.W.Frag} (hK : X.K = K) : CallR X (.type "tuple") (rTupP K) := hK ▸ cr_tupP
theorem cr_dictPK {X : Cx} {K : PySem.W.Frag} (hK : X.K = K) (hc : X.calm = true) : CallR X (.type "dict") (rDictP K) := hK ▸ cr_dictP hc
theorem cr_sortNTK {X : Cx} {K : PySem.W.Frag} (hK : X.K = K) : CallR X (.builtin "sorted") (rSortNT K) := hK ▸ cr_sortNT
/-! ## sep.join(texts) -/
def rJoin (K : PySem.W.Frag) : V → List V → Hp → VK → Prop := fun x xs H Q => ∃ a p, ∃ ys : List Str, x = .str a ∧ xs = [.ref p] ∧ (SqL K H p (ys.map V.str) ∨ SqT K H p (ys.map V.str)) ∧
    (ys.map (·.length)).sum + ys.length * a.length ≤ 16777216 ∧ Q (.str (Txt.join a ys)) H
def wJoin : DM := fun d ds cs Φ => match d, ds with
  | .str a, [e] => ∃ (xs : List D) (ys : List Str), (lq cs e = some xs ∨ e = .tup xs) ∧ xs = ys.map D.str ∧ (ys.map (·.length)).sum + ys.length * a.length ≤ 16777216 ∧ Φ (.str (Txt.join a ys)) cs
  | _, _ => False
theorem simJoin {K : PySem.W.Frag} : SimM K (rJoin K) wJoin := fun x d vs ds H cs F Φ Q h r t1 t2 k => by
  match d, t1, ds, vs, t2, h with
  | .str a, .str _, [e], _, .cons t .nil, ⟨xs, ys, he, e2, hz, q⟩ =>
    rcases he with he | he
    · obtain ⟨p, us, rfl, sa, ta⟩ := lq_ok r t he
      rw [e2] at ta
      have := DtA.of_strs ta
      subst this
      exact ⟨a, p, ys, rfl, rfl, .inl sa, hz, k _ cs _ H q r .refl (.str _)⟩
    · subst he
      cases t with
      | tup sa ta =>
        rw [e2] at ta
        have := DtA.of_strs ta
        subst this
        exact ⟨a, _, ys, rfl, rfl, .inr (same_t hid_sub sa), hz, k _ cs _ H q r .refl (.str _)⟩
theorem mt_joinK {X : Cx} {K : PySem.W.Frag} (hK : X.K = K) : MtR X "str.join" (rJoin K) := hK ▸ mt_join
end DL
namespace DL
open PySem PySem.Spec PyProof.Rows L2

/-! ## calls by keyword alone: f(k = v, ..), all parameters in their order -/
def KwB (K : PySem.W.Frag) (fd : FuncData) (ps : List Str) : Prop := ∀ (s : Shared) (us : List Value), K.In s.heap → us.length = ps.length → BindsTo s fd ⟨[], ps.zip us⟩ (ps.zip us)
abbrev BindHK (x qual : Str) (params : Arguments) (body : List Stmt) (scope : Scope) (ps : List Str) : Prop :=
  ∀ (kV doc pm : Value) (an : Option Addr) (cdv ct : Value) (us : List Value), us.length = ps.length → bindArgs (PySem.W.fnOf x qual params body scope .none kV doc pm an cdv ct) ⟨[], ps.zip us⟩ = pure (ps.zip us)
theorem kwB_of {K : PySem.W.Frag} {x qual : Str} {params : Arguments} {body : List Stmt} {scope : Scope} {ps : List Str} {f : Addr} {fd : FuncData} (F : FunD K x qual params body scope [] [] f fd) (b : BindHK x qual params body scope ps) : KwB K fd ps := fun s us X hl => by
  obtain ⟨oc, od, dV, kV, doc, pm, an, cdv, ct, osl, rfl, lk, hcd, hD, hK⟩ := F.ex
  rcases hD with ⟨_, rfl⟩ | ⟨e, _⟩
  · exact .of_eq (b kV doc pm an cdv ct us hl)
  · exact absurd rfl e
structure KwOk (P : Program) (w : World) (K : PySem.W.Frag) (mg : Str → Option Value) (base : Heap) (k : Nat) (x : Str) (ps : List Str) (Pf : DSp) : Prop where
  ex : ∃ f fd, mg x = some (.ref f) ∧ PySem.W.keepIn K (.ref f) = true ∧ KwB K fd ps ∧ FnOk P w K mg base (L2.CX P w) k f fd ps (spD K Pf)
theorem KwOk.mk' {P : Program} {w : World} {K : PySem.W.Frag} {mg : Str → Option Value} {base : Heap} {k : Nat} {f : Addr} {fd : FuncData} {x qual : Str} {params : Arguments} {body : List Stmt} {scope : Scope} {ps : List Str} {Pf : DSp}
    (g : mg x = some (.ref f)) (F : FunD K x qual params body scope [] [] f fd) (b : BindHK x qual params body scope ps) (o : FnOk P w K mg base (L2.CX P w) k f fd ps (spD K Pf)) : KwOk P w K mg base k x ps Pf :=
  ⟨f, fd, g, F.kp, kwB_of F b, o⟩
/-- the values of keywords by data -/
structure QK (X : Cx) (W : WX) (kws : List Keyword) (t : TA) (w : DA) : Prop where
  pe : PK X kws t
  sim : SimA X.K W t w
section
variable {X : Cx} {W : WX} {e : Expr} {te : TE} {we : DE} {kws : List Keyword} {t : TA} {wt : DA} {nm : Option Str} {kp : Pos}
theorem qk_nil : QK X W [] tNil dNil := ⟨pk_nil, fun ρ cs Φ Ψ σ H F Q h R L k => k [] cs [] H h R .refl .nil⟩
theorem qk_cons (h : QE X W e te we) (r : QK X W kws t wt) : QK X W (⟨nm, e, kp⟩ :: kws) (tCons te t) (dCons we wt) :=
  ⟨pk_cons h.pe r.pe, fun ρ cs Φ Ψ σ H F Q hw R L k => h.sim ρ cs _ Ψ σ H F _ hw R L fun d cs1 v H1 q R1 s1 t1 => r.sim ρ cs1 _ Ψ σ H1 F _ q R1 (L.step s1) fun ds cs2 vs H2 q2 R2' s2 t2 =>
    k (d :: ds) cs2 (v :: vs) H2 q2 R2' (s1.trans s2) (.cons (t1.mono s2.base) t2)⟩
end
section
variable {X : Cx} {CX : CXT} {k : Nat} {f : Addr} {fd : FuncData} {ps : List Str} {sp : Sp} {E : L2.St → XK} {x : Str} {p pos : Pos} {kws : List Keyword} {t : TA}
theorem run_fnSK {pins : List (Addr × Obj)} {σ : L2.St} {H : Hp} {s : Shared} {Q : VK} {us : List Value} {vs : List V} (F : FnOk X.prog X.w X.K X.mg X.base CX k f fd ps sp) (hr : Room k X.A) (hb : KwB X.K fd ps) (hx : PassesAt CX X σ (E σ))
    (I : Inv X pins σ H s) (r : Vals vs us) (h : sp vs H Q (E σ)) : wpAny (model X.prog X.w) X.A (call (.ref f) [] (ps.zip us)) (EP X pins σ Q) X.xe s := by
  have hl : us.length = ps.length := by rw [← r.length]; exact F.len _ _ _ _ h
  refine wpAny_call (codeAny_mono (F.run X.A X.stack s H ⟨[], ps.zip us⟩ us vs Q (E σ) hr I.env0 (hb s us I.kIn hl) r h) fun r s' hq => ?_)
  cases r with
  | error e => exact hx pins H s e s' I hq
  | ok fl =>
    cases fl with
    | ret u => exact I.after hq
    | next => exact False.elim hq
    | brk => exact False.elim hq
    | cont => exact False.elim hq
theorem pe_callSK (F : FnOk X.prog X.w X.K X.mg X.base CX k f fd ps sp) (hr : Room k X.A) (hg : Gl X x) (hm : X.mg x = some (.ref f)) (hk : PySem.W.keepIn X.K (.ref f) = true) (hb : KwB X.K fd ps) (hx : ∀ σ, PassesAt CX X σ (E σ))
    (hkw : PK X kws t) (hall : (backToKw pos (keywordEach kws X.env)).all (·.1.isSome) = true) (hks : (backToKw pos (keywordEach kws X.env)).filterMap (·.1) = ps)
    (hdb : (x == ("__debug__" : Str)) = false) (hpl : ((backTo pos (starEach [] X.env)).any (·.1) || (backToKw pos (keywordEach kws X.env)).any (·.1.isNone)) = false) :
    PE X (.Call (.Name x p) [] kws pos) (tCallS sp E t) := by
  refine ⟨fun pins s σ H Q I h => ?_⟩
  refine wpAny_Call_Name_kw (ld_glob I hg hm ?_ hdb)
  refine PySem.W.callWith_KW0 (h₀ := X.base) I.ok.mod.kin hk hall (thn (hkw.run pos pins s σ H _ I h) fun us s1 ⟨vs, H1, I1, r, q⟩ => ⟨I1.kIn, ?_⟩) hpl
  rw [hks]
  exact run_fnSK F hr hb (hx σ) I1 r q
end
theorem qe_callKw {X : Cx} {W : WX} {K : PySem.W.Frag} (hK : X.K = K) {Pf : DSp} {k : Nat} {ps : List Str} {x : Str} {p pos : Pos} {kws : List Keyword} {t : TA} {wt : DA} (h : KwOk X.prog X.w X.K X.mg X.base k x ps Pf) (hr : Room k X.A) (tk : Takes X W) (hg : Gl X x) (ha : QK X W kws t wt)
    (hall : (backToKw pos (keywordEach kws X.env)).all (·.1.isSome) = true := by rfl) (hks : (backToKw pos (keywordEach kws X.env)).filterMap (·.1) = ps := by rfl)
    (hdb : (x == ("__debug__" : Str)) = false := by decide) (hpl : ((backTo pos (starEach [] X.env)).any (·.1) || (backToKw pos (keywordEach kws X.env)).any (·.1.isNone)) = false := by rfl) :
    QE X W (.Call (.Name x p) [] kws pos) (tCallS (spD K Pf) (WE W) t) (dCall Pf wt) := by
  subst hK
  obtain ⟨f, fd, h1, h2, h3, h4⟩ := h.ex
  exact ⟨pe_callSK h4 hr hg h1 h2 h3 (fun σ => passAt tk σ) ha.pe hall hks hdb hpl, fun ρ cs Φ Ψ σ H F Q h R L kk => ha.sim ρ cs _ Ψ σ H F _ h R L fun ds cs1 vs H1 q R1 s1 t1 => call_sim q R R1 L s1 t1 kk⟩
end DL
namespace DL
open PySem PySem.Spec PyProof.Rows L2

/-! ## sorted(set(t)), t a tuple of numbers -/
section
variable {X : Cx}
def tSortSetT (K : PySem.W.Frag) (ta : TE) : TE := fun σ H Q => ta σ H fun x H1 => ∃ (l : Addr) (ns : List Int), x = V.ref l ∧ SqT K H1 l (ns.map V.int) ∧ ns.length < 63 ∧
  ∀ (ks : List Int) (p : Addr), ks.Pairwise (· < ·) → (∀ k : Int, k ∈ ks ↔ k ∈ ns) → H1 p = none → Q (.ref p) (upd H1 p (.lst (ks.map V.int)))
theorem pe_sortSetT {a : Expr} {ta : TE} {p p2 q pos : Pos} (hc : X.calm = true) (hg : Gl X "sorted") (hm : X.mg "sorted" = none) (hg2 : Gl X "set") (hm2 : X.mg "set" = none) (ha : PE X a ta)
    (na : starEach [a] X.env = (false, eval a X.env) :: starEach [] X.env := by rfl) : PE X (.Call (.Name "sorted" p) [.Call (.Name "set" p2) [a] [] q] [] pos) (tSortSetT X.K ta) := by
  refine ⟨fun pins s σ H Q I h => ?_⟩
  refine Call_ (ld_blt I hg hm bt_sorted ?_)
  refine PyProof.Rows.callWith_builtin1 (PyProof.Rows.args_cons ?_ rfl) rfl rfl
  refine Call_ (ld_blt I hg2 hm2 PyProof.Rows.boot_set ?_)
  refine PyProof.Rows.callWith_type1 (PyProof.Rows.args_cons (thn (ha.run pins s σ H _ I h) fun v s1 ⟨x, H1, I1, r1, q1⟩ => PyProof.Rows.args_nil ?_) na) na rfl
  obtain ⟨l, ns, rfl, hq, h63, q1⟩ := q1
  cases r1
  obtain ⟨its, r, pl, hz⟩ := I1.tuple hq
  have pl' : s1.heap.IsTuple l its.toArray := pl
  refine call_set_tupI ns (I1.ok.hd hc) pl' (by simpa using r.ints) (by unfold scanBound; omega) fun h' tk c hS hc' hk => ?_
  refine PyProof.Rows.args_nil ?_
  have I2 : Inv X pins σ H1 { s1 with heap := h', toks := tk } := I1.kept fun b o e => hk b o e
  refine sorted_set hS (I2.ok.hd hc) (by omega) fun s' p out c2 ks k g o hp hgp hi hs hm hl => ?_
  have hlen : (ks.map V.int).length ≤ sizeLine := by rw [List.length_map, hl, sizeLine_eq]; omega
  have hn : H1 p = none := I2.hok.fresh hp
  have J : Inv X pins σ (upd H1 p (.lst (ks.map V.int))) { s1 with heap := s'.heap, gens := s'.gens, drawn := s'.drawn, toks := s'.toks } :=
    Inv.call (s := { s1 with heap := h', toks := tk }) (ch := []) I2 (Un.laid (h := h') k hp hn) (I2.hok.laid k hp ⟨hlen, out.toList, c2, vals_of_ints hi, hgp⟩) (by rw [g]; exact I2.bare) (fun _ z => nomatch z)
  have e : s' = { s1 with heap := s'.heap, gens := s'.gens, drawn := s'.drawn, toks := s'.toks } := by
    cases s'
    cases s1
    cases o
    rfl
  rw [e]
  exact ⟨.ref p, _, J, rfl, q1 ks p hs (fun k => (hm k).trans (by simp)) hn⟩
end
def dSortSetT (m : NewM) (w : DE) : DE := fun ρ cs Φ Ψ => w ρ cs (fun d cs1 => ∃ ns : List Int, d = .tup (ns.map D.int) ∧ ns.length < 63 ∧ ∀ ks : List Int, ks.Pairwise (· < ·) → (∀ k : Int, k ∈ ks ↔ k ∈ ns) → m (ks.map D.int) cs1 Φ) Ψ
theorem qe_sortSetT {X : Cx} {W : WX} {m : NewM} (hmn : NewOk m) {a : Expr} {ta : TE} {wa : DE} {p p2 q pos : Pos} (hc : X.calm = true) (hg : Gl X "sorted") (hm : X.mg "sorted" = none) (hg2 : Gl X "set") (hm2 : X.mg "set" = none) (ha : QE X W a ta wa)
    (na : starEach [a] X.env = (false, eval a X.env) :: starEach [] X.env := by rfl) : QE X W (.Call (.Name "sorted" p) [.Call (.Name "set" p2) [a] [] q] [] pos) (tSortSetT X.K ta) (dSortSetT m wa) :=
  ⟨pe_sortSetT hc hg hm hg2 hm2 ha.pe na, fun ρ cs Φ Ψ σ H F Q hw R L k => ha.sim ρ cs _ Ψ σ H F _ hw R L fun d cs1 v H1 ⟨ns, e1, h1, q⟩ R1 s1 t1 => by
    subst e1
    cases t1 with
    | tup sa ta =>
      have e := DtA.of_ints ta
      subst e
      refine ⟨_, ns, rfl, same_t hid_sub sa, h1, fun ks p h2 h3 hh => ?_⟩
      obtain ⟨z, cs', hz, r2, s2, q2⟩ := hmn.new X.K H1 cs1 F _ _ p Φ (q ks h2 h3) R1.r (DtA.map_int ks) hh
      exact k z cs' _ _ hz (R1.step r2 s2) (s1.trans s2) q2⟩
/-! ## what is walked inside a comprehension's block -/
theorem qi_seqK {X : Cx} {W : WX} {K : PySem.W.Frag} (hK : X.K = K) {tg e : Expr} {te : TE} {we : DE} (h : QE X W e te we) : QI X W tg e (iSeq K te) (diSeq we) := by subst hK; exact qi_seq h
end DL
namespace LS

/-! ## rows as functions of the place -/
structure T where
  n : Nat
  k : Nat → Int
  c : Nat → Int
  u : Nat → Int
def tau (x y i : Nat) : Nat := if i = x then y else if i = y then x else i
def tauI (x y : Nat) (p : Int) : Int := if p = x then y else if p = y then x else p
def exch (t : T) (x y : Nat) : T := ⟨t.n, fun i => t.k (tau x y i), fun i => t.c (tau x y i), fun i => if i = x ∨ i = y then t.u i else tauI x y (t.u i)⟩
def bump (t : T) (g : Nat) (δ : Int) : T := { t with c := fun i => if i = g then t.c i + δ else t.c i }
theorem tau_tau {x y i : Nat} : tau x y (tau x y i) = i := by unfold tau; split <;> (try split) <;> (try split) <;> (try split) <;> omega
theorem tau_lt {x y i n : Nat} (hx : x < n) (hy : y < n) (hi : i < n) : tau x y i < n := by unfold tau; split <;> (try split) <;> omega
theorem tauI_tauI {x y : Nat} {p : Int} : tauI x y (tauI x y p) = p := by unfold tauI; split <;> (try split) <;> (try split) <;> (try split) <;> omega
theorem tauI_nat {x y i : Nat} : tauI x y (i : Int) = (tau x y i : Nat) := by unfold tauI tau; split <;> (try split) <;> (try split) <;> (try split) <;> omega
theorem exch_self {t : T} {x : Nat} : exch t x x = t := by
  unfold exch
  have e1 : ∀ i, tau x x i = i := fun i => by unfold tau; split <;> (try split) <;> omega
  have e2 : ∀ p, tauI x x p = p := fun p => by unfold tauI; split <;> (try split) <;> omega
  simp [e1, e2]

structure Shape (t : T) : Prop where
  odd : t.n % 2 = 1
  root : t.u (t.n - 1) = -1
  pair : ∀ i, i % 2 = 0 → i + 1 < t.n → t.u (i + 1) = t.u i
  up : ∀ i, i % 2 = 0 → i + 1 < t.n → (i : Int) + 1 < t.u i ∧ t.u i < t.n ∧ t.k (t.u i).toNat = -1
  inj : ∀ i j, i % 2 = 0 → j % 2 = 0 → i + 1 < t.n → j + 1 < t.n → t.u i = t.u j → i = j
  ons : ∀ q, q < t.n → t.k q = -1 → ∃ i, i % 2 = 0 ∧ i + 1 < t.n ∧ t.u i = q
  kd : ∀ i, i < t.n → -1 ≤ t.k i ∧ t.k i ≤ 256
  dist : ∀ i j, i < t.n → j < t.n → 0 ≤ t.k i → t.k i = t.k j → i = j
def Sums (t : T) (p δ : Int) : Prop := ∀ i, i % 2 = 0 → i + 1 < t.n → t.c (t.u i).toNat + (if t.u i = p then δ else 0) = t.c i + t.c (i + 1)
structure Mid (t : T) (p δ : Int) : Prop extends Shape t where
  sums : Sums t p δ
  srt : ∀ i, i + 1 < t.n → t.c i ≤ t.c (i + 1)
  pos : ∀ i, i < t.n → 0 ≤ t.c i
  pl : -1 ≤ p ∧ p < t.n

theorem mono_of {n : Nat} {c : Nat → Int} (h : ∀ i, i + 1 < n → c i ≤ c (i + 1)) : ∀ j i, i ≤ j → j < n → c i ≤ c j
  | 0, i, hi, _ => by rw [Nat.le_zero.mp hi]; exact Int.le_refl _
  | j + 1, i, hi, hj => by
    by_cases e : i = j + 1
    · rw [e]; exact Int.le_refl _
    · exact Int.le_trans (mono_of h j i (by omega) (by omega)) (h j hj)
theorem Mid.mono {t : T} {p δ : Int} (h : Mid t p δ) {i j : Nat} (hi : i ≤ j) (hj : j < t.n) : t.c i ≤ t.c j := mono_of h.srt j i hi hj
theorem Mid.lt {t : T} {p δ : Int} (h : Mid t p δ) {i j : Nat} (hi : i < t.n) (hc : t.c i < t.c j) : i < j := by
  by_cases e : j ≤ i
  · have := h.mono e hi; omega
  · omega
/-- the way up of a place that has one -/
theorem Shape.upAny {t : T} (h : Shape t) {i : Nat} (hi : i + 1 < t.n) : (i : Int) < t.u i ∧ t.u i < t.n ∧ t.k (t.u i).toNat = -1 := by
  rcases Nat.mod_two_eq_zero_or_one i with e | e
  · have := h.up i e hi; exact ⟨by omega, this.2⟩
  · have h2 := h.up (i - 1) (by omega) (by omega)
    have h3 := h.pair (i - 1) (by omega) (by omega)
    have e2 : i - 1 + 1 = i := by omega
    rw [e2] at h3
    rw [h3]
    exact ⟨by omega, h2.2⟩
theorem Shape.last {t : T} (h : Shape t) {i : Nat} (hi : i < t.n) (hu : t.u i < 0) : i + 1 = t.n := by
  by_cases e : i + 1 < t.n
  · have := (h.upAny e).1; omega
  · omega
theorem Shape.root' {t : T} (h : Shape t) {i : Nat} (hi : i + 1 = t.n) : t.u i = -1 := by
  have := h.root
  have e : i = t.n - 1 := by omega
  rw [e]; exact this

/-- what an exchange asks -/
structure Free (t : T) (x y : Nat) : Prop where
  hx : x < t.n
  hy : y < t.n
  ne : x ≠ y
  ux : t.u x ≠ y
  uy : t.u y ≠ x
  bx : ∀ i, i % 2 = 0 → i + 1 < t.n → t.u i = x → i + 1 < y
  by' : ∀ i, i % 2 = 0 → i + 1 < t.n → t.u i = y → i + 1 < x

section
variable {t : T} {x y : Nat}
theorem exch_u (h : Shape t) (f : Free t x y) {i : Nat} (hi : i < t.n) : (exch t x y).u i = tauI x y (t.u i) := by
  show (if i = x ∨ i = y then t.u i else tauI x y (t.u i)) = _
  split
  · rename_i e
    have gx : t.u i ≠ x ∧ t.u i ≠ y := by
      by_cases hl : i + 1 < t.n
      · have := (h.upAny hl).1
        rcases e with rfl | rfl
        · exact ⟨by omega, f.ux⟩
        · exact ⟨f.uy, by omega⟩
      · have := h.root' (i := i) (by omega); omega
    unfold tauI
    rw [if_neg gx.1, if_neg gx.2]
  · rfl
theorem exch_shape (h : Shape t) (f : Free t x y) : Shape (exch t x y) := by
  have hn : (exch t x y).n = t.n := rfl
  have hnx := f.hx
  have hny := f.hy
  refine ⟨h.odd, ?_, ?_, ?_, ?_, ?_, ?_, ?_⟩
  · rw [hn, exch_u h f (by have := h.odd; omega), h.root]; unfold tauI; rw [if_neg (by omega), if_neg (by omega)]
  · intro i e hi
    rw [exch_u h f (by omega), exch_u h f (by omega), h.pair i e hi]
  · intro i e hi
    rw [exch_u h f (by omega)]
    obtain ⟨h1, h2, h3⟩ := h.up i e hi
    have hk : (exch t x y).k (tauI x y (t.u i)).toNat = -1 := by
      have eu : t.u i = ((t.u i).toNat : Nat) := by omega
      show t.k (tau x y (tauI x y (t.u i)).toNat) = -1
      rw [eu, tauI_nat, Int.toNat_natCast, tau_tau]
      exact h3
    refine ⟨?_, ?_, hk⟩
    · unfold tauI
      split
      · have := f.bx i e hi (by assumption); omega
      · split
        · have := f.by' i e hi (by assumption); omega
        · exact h1
    · unfold tauI
      have := hn
      split <;> (try split) <;> omega
  · intro i j ei ej hi hj e
    rw [exch_u h f (by omega), exch_u h f (by omega)] at e
    have e2 : t.u i = t.u j := by rw [← tauI_tauI (x := x) (y := y) (p := t.u i), e, tauI_tauI]
    exact h.inj i j ei ej hi hj e2
  · intro q hq hk
    obtain ⟨i, e, hi, hu⟩ := h.ons (tau x y q) (tau_lt f.hx f.hy hq) hk
    refine ⟨i, e, hi, ?_⟩
    rw [exch_u h f (by omega), hu, tauI_nat, tau_tau]
  · intro i hi
    exact h.kd _ (tau_lt f.hx f.hy hi)
  · intro i j hi hj h0 e
    have := h.dist _ _ (tau_lt f.hx f.hy hi) (tau_lt f.hx f.hy hj) h0 e
    have e2 := congrArg (tau x y) this
    rwa [tau_tau, tau_tau] at e2
theorem exch_c (hc : t.c x = t.c y) : (exch t x y).c = t.c := by
  funext i
  show t.c (tau x y i) = t.c i
  unfold tau
  split
  · rename_i e; rw [e, hc]
  · split
    · rename_i e; rw [e, hc]
    · rfl
theorem exch_sums {p δ : Int} (h : Shape t) (f : Free t x y) (hc : t.c x = t.c y) (s : Sums t p δ) : Sums (exch t x y) (tauI x y p) δ := by
  intro i e hi
  rw [exch_c hc, exch_u h f (by have : (exch t x y).n = t.n := rfl; omega)]
  have h1 := s i e hi
  obtain ⟨h2, h3, h4⟩ := h.up i e hi
  have ec : t.c (tauI x y (t.u i)).toNat = t.c (t.u i).toNat := by
    have eu : t.u i = ((t.u i).toNat : Nat) := by omega
    rw [eu, tauI_nat, Int.toNat_natCast, Int.toNat_natCast]
    have := congrFun (exch_c hc) (t.u i).toNat
    exact this
  rw [ec, ← h1]
  have : (tauI x y (t.u i) = tauI x y p) ↔ t.u i = p := ⟨fun q => by rw [← tauI_tauI (x := x) (y := y) (p := t.u i), q, tauI_tauI], fun q => by rw [q]⟩
  by_cases z : t.u i = p
  · rw [if_pos (this.mpr z), if_pos z]
  · rw [if_neg (fun q => z (this.mp q)), if_neg z]
end

/-- the place that a step changes -/
structure Goal (t : T) (p g : Nat) (δ : Int) : Prop where
  hp : p < t.n
  hg : g < t.n
  eq : t.c g = t.c p
  up : δ = 1 → p ≤ g ∧ (g + 1 < t.n → t.c g < t.c (g + 1))
  dn : δ = -1 → g ≤ p ∧ (0 < g → t.c (g - 1) < t.c g)
def next (t : T) (p g : Nat) (δ : Int) : T := bump (exch t p g) g δ
inductive Steps (δ : Int) : T → Int → T → Prop
  | done {t : T} {p : Int} : p < 0 → Steps δ t p t
  | step {t t' : T} {p g : Nat} : Goal t p g δ → Steps δ (next t p g δ) (t.u g) t' → Steps δ t p t'
theorem goal_free1 {t : T} {p g : Nat} (h : Mid t p 1) (h1 : ∀ i, i < t.n → 1 ≤ t.c i ∨ i = p) (w : Goal t p g 1) (ne : p ≠ g) : Free t p g := by
  obtain ⟨h3, h4⟩ := w.up rfl
  have hg1 : 1 ≤ t.c g := (h1 g w.hg).resolve_right (fun e => ne e.symm)
  have all1 : ∀ i, i < t.n → 1 ≤ t.c i := fun i hi => (h1 i hi).elim id fun e => by rw [e, ← w.eq]; exact hg1
  refine ⟨w.hp, w.hg, ne, ?_, ?_, ?_, ?_⟩
  · intro e
    have hpn : p + 1 < t.n := by have := w.hg; omega
    have sum : t.c g = t.c p + t.c (if p % 2 = 0 then p + 1 else p - 1) := by
      rcases Nat.mod_two_eq_zero_or_one p with z | z
      · have := h.sums p z hpn
        rw [e, if_neg (by omega)] at this
        rw [if_pos z]
        simpa using this
      · have hp1 := h.pair (p - 1) (by omega) (by omega)
        have e1 : p - 1 + 1 = p := by omega
        rw [e1] at hp1
        have := h.sums (p - 1) (by omega) (by omega)
        rw [← hp1, e, if_neg (by omega), e1] at this
        rw [if_neg (by omega)]
        simp at this
        omega
    have q := all1 (if p % 2 = 0 then p + 1 else p - 1) (by split <;> omega)
    have := w.eq
    omega
  · intro e
    by_cases hl : g + 1 < t.n
    · have := (h.upAny hl).1; omega
    · have := h.root' (i := g) (by have := w.hg; omega); omega
  · intro i e hi hu
    have := (h.up i e hi).1; omega
  · intro i e hi hu
    have hs := h.sums i e hi
    rw [hu, if_neg (by omega)] at hs
    simp at hs
    have a := all1 i (by omega)
    exact h.lt hi (by have := w.eq; omega)
theorem goal_free2 {t : T} {p g : Nat} (h : Mid t p (-1)) (w : Goal t p g (-1)) (ne : p ≠ g) : Free t p g := by
  obtain ⟨h3, h4⟩ := w.dn rfl
  refine ⟨w.hp, w.hg, ne, ?_, ?_, ?_, ?_⟩
  · intro e
    by_cases hl : p + 1 < t.n
    · have := (h.upAny hl).1; omega
    · have := h.root' (i := p) (by have := w.hp; omega); omega
  · intro e
    have hgn : g + 1 < t.n := by have := w.hp; omega
    have sum : t.c p - 1 = t.c g + t.c (if g % 2 = 0 then g + 1 else g - 1) := by
      rcases Nat.mod_two_eq_zero_or_one g with z | z
      · have := h.sums g z hgn
        rw [e, if_pos rfl] at this
        rw [if_pos z]
        simp at this
        omega
      · have hp1 := h.pair (g - 1) (by omega) (by omega)
        have e1 : g - 1 + 1 = g := by omega
        rw [e1] at hp1
        have := h.sums (g - 1) (by omega) (by omega)
        rw [← hp1, e, if_pos rfl, e1] at this
        rw [if_neg (by omega)]
        simp at this
        omega
    have q := h.pos (if g % 2 = 0 then g + 1 else g - 1) (by split <;> omega)
    have := w.eq
    omega
  · intro i e hi hu
    have hs := h.sums i e hi
    rw [hu, if_pos rfl] at hs
    simp at hs
    have a := h.pos i (by omega)
    exact h.lt hi (by have := w.eq; omega)
  · intro i e hi hu
    have := (h.up i e hi).1; omega
/-- a step keeps the row in its middle form -/
theorem next_mid {t : T} {p g : Nat} {δ : Int} (h : Mid t p δ) (w : Goal t p g δ) (f : p ≠ g → Free t p g) (hd : δ = 1 ∨ δ = -1) (hz : δ = -1 → 1 ≤ t.c p) : Mid (next t p g δ) (t.u g) δ := by
  have base : Shape (exch t p g) ∧ Sums (exch t p g) g δ ∧ (exch t p g).c = t.c := by
    by_cases e : p = g
    · subst e; rw [exch_self]; exact ⟨h.toShape, h.sums, rfl⟩
    · have fr := f e
      have s := exch_sums h.toShape fr w.eq.symm h.sums
      have e2 : tauI p g (p : Int) = g := by unfold tauI; rw [if_pos rfl]
      rw [e2] at s
      exact ⟨exch_shape h.toShape fr, s, exch_c w.eq.symm⟩
  obtain ⟨sh, sm, ec⟩ := base
  have hn : (next t p g δ).n = t.n := rfl
  have hug : (exch t p g).u g = t.u g := by
    show (if g = p ∨ g = g then t.u g else _) = t.u g
    rw [if_pos (.inr rfl)]
  have hu : ∀ i, (next t p g δ).u i = (exch t p g).u i := fun _ => rfl
  have hc : ∀ i, (next t p g δ).c i = if i = g then t.c i + δ else t.c i := fun i => by
    show (if i = g then (exch t p g).c i + δ else (exch t p g).c i) = _
    rw [ec]
  refine ⟨⟨sh.odd, sh.root, sh.pair, sh.up, sh.inj, sh.ons, sh.kd, sh.dist⟩, ?_, ?_, ?_, ?_⟩
  · intro i e hi
    have hi' : i + 1 < t.n := hi
    have s1 := sm i e hi
    obtain ⟨u1, u2, u3⟩ := sh.up i e hi
    rw [hc, hc, hc, hu]
    rw [ec] at s1
    have hup : (exch t p g).u i = t.u g ↔ i = g ∨ i + 1 = g := by
      constructor
      · intro q
        by_cases hl : g + 1 < t.n
        · rcases Nat.mod_two_eq_zero_or_one g with z | z
          · exact .inl (sh.inj i g e z hi hl (by rw [hug]; exact q))
          · have hp1 := sh.pair (g - 1) (by omega) (by show g - 1 + 1 < t.n; omega)
            have e1 : g - 1 + 1 = g := by omega
            rw [e1, hug] at hp1
            have := sh.inj i (g - 1) e (by omega) hi (by show g - 1 + 1 < t.n; omega) (by rw [← hp1]; exact q)
            omega
        · have := sh.root' (i := g) (by show g + 1 = t.n; have := w.hg; omega)
          rw [hug] at this
          omega
      · rintro (rfl | q)
        · exact hug
        · have hp1 := sh.pair i e hi
          rw [q, hug] at hp1
          exact hp1.symm
    by_cases c1 : (exch t p g).u i = g
    · -- the pair that was off is now right
      have ng : ¬ ((exch t p g).u i = t.u g) := fun q => by
        by_cases hl : g + 1 < t.n
        · have := (sh.upAny (i := g) hl).1
          rw [hug] at this
          omega
        · have := sh.root' (i := g) (by show g + 1 = t.n; have := w.hg; omega)
          rw [hug] at this
          omega
      rw [if_neg ng]
      rw [c1, if_pos rfl] at s1
      rw [c1]
      simp only [Int.toNat_natCast, if_true] at s1 ⊢
      have n1 : i ≠ g := by omega
      have n2 : i + 1 ≠ g := by omega
      rw [if_neg n1, if_neg n2]
      omega
    · rw [if_neg c1] at s1
      have n0 : ((exch t p g).u i).toNat ≠ g := by omega
      rw [if_neg n0]
      by_cases c2 : (exch t p g).u i = t.u g
      · rw [if_pos c2]
        rcases hup.mp c2 with q | q
        · rw [if_pos q, if_neg (by omega)]; omega
        · rw [if_neg (by omega), if_pos q]; omega
      · rw [if_neg c2]
        have n1 : i ≠ g := fun q => c2 (hup.mpr (.inl q))
        have n2 : i + 1 ≠ g := fun q => c2 (hup.mpr (.inr q))
        rw [if_neg n1, if_neg n2]
        omega
  · intro i hi
    have hi' : i + 1 < t.n := hi
    have s1 := h.srt i hi'
    rw [hc, hc]
    rcases hd with rfl | rfl
    · obtain ⟨h3, h4⟩ := w.up rfl
      by_cases e1 : i = g
      · subst e1; have := h4 hi'; rw [if_pos rfl, if_neg (by omega)]; omega
      · rw [if_neg e1]; split <;> omega
    · obtain ⟨h3, h4⟩ := w.dn rfl
      by_cases e1 : i + 1 = g
      · have e2 : g - 1 = i := by omega
        have := h4 (by omega)
        rw [e2, ← e1] at this
        rw [if_neg (by omega), if_pos e1]; omega
      · rw [if_neg e1]; split <;> omega
  · intro i hi
    rw [hc]
    have := h.pos i hi
    rcases hd with rfl | rfl
    · split <;> omega
    · split
      · rename_i e; subst e
        have := hz rfl
        have := w.eq
        omega
      · exact this
  · show -1 ≤ t.u g ∧ t.u g < t.n
    by_cases hl : g + 1 < t.n
    · have := h.upAny hl; omega
    · have := h.root' (i := g) (by have := w.hg; omega); omega
end LS
namespace LS

theorem steps_n {δ : Int} {t t' : T} {p : Int} (s : Steps δ t p t') : t'.n = t.n := by
  induction s with
  | done _ => rfl
  | step _ _ ih => exact ih
theorem steps_up {t t' : T} {p : Int} (s : Steps 1 t p t') (h : Mid t p 1) (h1 : ∀ i, i < t.n → 1 ≤ t.c i ∨ (i : Int) = p) : Mid t' (-1) 1 ∧ ((0 ≤ p ∨ ∀ i, i < t.n → 1 ≤ t.c i) → ∀ i, i < t'.n → 1 ≤ t'.c i) := by
  induction s with
  | @done t p hp =>
    have e : p = -1 := by have := h.pl; omega
    subst e
    exact ⟨h, fun q => q.elim (by omega) id⟩
  | @step t t' p g w s ih =>
    have f : p ≠ g → Free t p g := goal_free1 h (fun i hi => (h1 i hi).imp id (by omega)) w
    have m := next_mid h w f (.inl rfl) (by omega)
    have c1 : ∀ i, i < (next t p g 1).n → 1 ≤ (next t p g 1).c i := fun i hi => by
      have hi' : i < t.n := hi
      have ec : (exch t p g).c = t.c := exch_c w.eq.symm
      show 1 ≤ (if i = g then (exch t p g).c i + 1 else (exch t p g).c i)
      rw [ec]
      have p1 := h.pos i hi'
      by_cases e : i = g
      · rw [if_pos e]; omega
      · rw [if_neg e]
        rcases h1 i hi' with q | q
        · exact q
        · have e2 : i = p := by omega
          subst e2
          have hg1 := (h1 g w.hg).resolve_right (by omega)
          have := w.eq
          omega
    obtain ⟨a, b⟩ := ih m (fun i hi => .inl (c1 i hi))
    exact ⟨a, fun _ => b (.inr c1)⟩
theorem steps_dn {t t' : T} {p : Int} (s : Steps (-1) t p t') (h : Mid t p (-1)) (h1 : 0 ≤ p → 1 ≤ t.c p.toNat) : Mid t' (-1) (-1) := by
  induction s with
  | @done t p hp =>
    have e : p = -1 := by have := h.pl; omega
    subst e
    exact h
  | @step t t' p g w s ih =>
    have f : p ≠ g → Free t p g := goal_free2 h w
    have m := next_mid h w f (.inr rfl) (fun _ => by simpa using h1 (by omega))
    refine ih m (fun h0 => ?_)
    have hl : g + 1 < t.n := by
      by_cases hl : g + 1 < t.n
      · exact hl
      · have := h.root' (i := g) (by have := w.hg; omega); omega
    -- the place above stands over a pair
    have hug : (next t p g (-1)).u g = t.u g := by
      show (if g = p ∨ g = g then t.u g else _) = t.u g
      rw [if_pos (.inr rfl)]
    obtain ⟨i, e, hi, hu⟩ : ∃ i, i % 2 = 0 ∧ i + 1 < (next t p g (-1)).n ∧ (next t p g (-1)).u i = t.u g := by
      rcases Nat.mod_two_eq_zero_or_one g with z | z
      · exact ⟨g, z, hl, hug⟩
      · refine ⟨g - 1, by omega, by show g - 1 + 1 < t.n; omega, ?_⟩
        have := m.pair (g - 1) (by omega) (by show g - 1 + 1 < t.n; omega)
        have e1 : g - 1 + 1 = g := by omega
        rw [e1, hug] at this
        exact this.symm
    have sm := m.sums i e hi
    rw [hu, if_pos rfl] at sm
    have a := m.pos i (by omega)
    have b := m.pos (i + 1) hi
    omega

/-! ## the counts of the letters -/
def Has (t : T) (z m : Int) : Prop := ∃ i, i < t.n ∧ t.k i = z ∧ t.c i = m
theorem has_exch {t : T} {x y : Nat} (hx : x < t.n) (hy : y < t.n) (hc : t.c x = t.c y) {z m : Int} : Has (exch t x y) z m ↔ Has t z m := by
  have ec : ∀ i, t.c (tau x y i) = t.c i := fun i => congrFun (exch_c (x := x) (y := y) hc) i
  constructor
  · rintro ⟨i, hi, h1, h2⟩
    exact ⟨tau x y i, tau_lt hx hy hi, h1, h2⟩
  · rintro ⟨i, hi, h1, h2⟩
    refine ⟨tau x y i, tau_lt hx hy hi, ?_, ?_⟩
    · show t.k (tau x y (tau x y i)) = z
      rw [tau_tau]; exact h1
    · show t.c (tau x y (tau x y i)) = m
      rw [tau_tau]; exact h2
theorem has_bump {t : T} {g : Nat} {δ z m : Int} (hk : t.k g ≠ z) : Has (bump t g δ) z m ↔ Has t z m := by
  constructor
  · rintro ⟨i, hi, h1, h2⟩
    have hi : i < t.n := hi
    have h1 : t.k i = z := h1
    have ne : i ≠ g := fun e => hk (by rw [← e]; exact h1)
    have h2 : (if i = g then t.c i + δ else t.c i) = m := h2
    rw [if_neg ne] at h2
    exact ⟨i, hi, h1, h2⟩
  · rintro ⟨i, hi, h1, h2⟩
    have ne : i ≠ g := fun e => hk (by rw [← e]; exact h1)
    exact ⟨i, hi, h1, by show (if i = g then t.c i + δ else t.c i) = m; rw [if_neg ne]; exact h2⟩
theorem has_bump_same {t : T} (h : Shape t) {g : Nat} {δ z m : Int} (hg : g < t.n) (hk : t.k g = z) (hz : 0 ≤ z) : Has (bump t g δ) z m ↔ Has t z (m - δ) := by
  constructor
  · rintro ⟨i, hi, h1, h2⟩
    have e : i = g := h.dist i g hi hg (by show 0 ≤ t.k i; rw [show t.k i = z from h1]; exact hz) (by rw [hk]; exact h1)
    have h2 : (if i = g then t.c i + δ else t.c i) = m := h2
    rw [if_pos e] at h2
    exact ⟨i, hi, h1, by omega⟩
  · rintro ⟨i, hi, h1, h2⟩
    have e : i = g := h.dist i g hi hg (by rw [h1]; exact hz) (by rw [hk]; exact h1)
    exact ⟨i, hi, h1, by show (if i = g then t.c i + δ else t.c i) = m; rw [if_pos e]; omega⟩
theorem next_k {t : T} {p g : Nat} {δ : Int} : (next t p g δ).k g = t.k p := by
  show t.k (tau p g g) = t.k p
  unfold tau; split
  · rename_i e; rw [e]
  · rw [if_pos rfl]
/-- above a letter, its counts stay -/
theorem steps_has {δ : Int} {t t' : T} {p : Int} (s : Steps δ t p t') (h : Mid t p δ) (hd : δ = 1 ∨ δ = -1) (h1 : δ = 1 → ∀ i, i < t.n → 1 ≤ t.c i ∨ (i : Int) = p) (h2 : δ = -1 → 0 ≤ p → 1 ≤ t.c p.toNat) (hk : 0 ≤ p → t.k p.toNat = -1) :
    ∀ z m, 0 ≤ z → (Has t' z m ↔ Has t z m) := by
  induction s with
  | done _ => exact fun _ _ _ => Iff.rfl
  | @step t t' p g w s ih =>
    have f : p ≠ g → Free t p g := by
      rcases hd with rfl | rfl
      · exact goal_free1 h (fun i hi => (h1 rfl i hi).imp id (by omega)) w
      · exact goal_free2 h w
    have m := next_mid h w f hd (fun e => by simpa using h2 e (by omega))
    have hkp : t.k p = -1 := by simpa using hk (by omega)
    intro z v hz
    rw [ih m ?_ ?_ ?_ z v hz]
    · unfold next
      rw [has_bump (by show t.k (tau p g g) ≠ z; rw [show t.k (tau p g g) = t.k p from next_k (δ := δ)]; omega), has_exch w.hp w.hg w.eq.symm]
    · intro e i hi
      subst e
      have hi' : i < t.n := hi
      left
      have ec : (exch t p g).c = t.c := exch_c w.eq.symm
      show 1 ≤ (if i = g then (exch t p g).c i + 1 else (exch t p g).c i)
      rw [ec]
      have p1 := h.pos i hi'
      by_cases e : i = g
      · rw [if_pos e]; omega
      · rw [if_neg e]
        rcases h1 rfl i hi' with q | q
        · exact q
        · have e2 : i = p := by omega
          subst e2
          have hg1 := (h1 rfl g w.hg).resolve_right (by omega)
          have := w.eq
          omega
    · intro e h0
      subst e
      -- as in steps_dn
      have hl : g + 1 < t.n := by
        by_cases hl : g + 1 < t.n
        · exact hl
        · have := h.root' (i := g) (by have := w.hg; omega); omega
      have hug : (next t p g (-1)).u g = t.u g := by
        show (if g = p ∨ g = g then t.u g else _) = t.u g
        rw [if_pos (.inr rfl)]
      obtain ⟨i, e, hi, hu⟩ : ∃ i, i % 2 = 0 ∧ i + 1 < (next t p g (-1)).n ∧ (next t p g (-1)).u i = t.u g := by
        rcases Nat.mod_two_eq_zero_or_one g with z | z
        · exact ⟨g, z, hl, hug⟩
        · refine ⟨g - 1, by omega, by show g - 1 + 1 < t.n; omega, ?_⟩
          have := m.pair (g - 1) (by omega) (by show g - 1 + 1 < t.n; omega)
          have e1 : g - 1 + 1 = g := by omega
          rw [e1, hug] at this
          exact this.symm
      have sm := m.sums i e hi
      rw [hu, if_pos rfl] at sm
      have a := m.pos i (by omega)
      have b := m.pos (i + 1) hi
      omega
    · intro h0
      have hl : g + 1 < t.n := by
        by_cases hl : g + 1 < t.n
        · exact hl
        · have := h.root' (i := g) (by have := w.hg; omega); omega
      have hug : (next t p g δ).u g = t.u g := by
        show (if g = p ∨ g = g then t.u g else _) = t.u g
        rw [if_pos (.inr rfl)]
      have := m.upAny (i := g) hl
      rw [hug] at this
      exact this.2.2

/-! ## right rows -/
structure Right (t : T) : Prop where
  mid : Mid t (-1) 1
  c1 : ∀ i, i < t.n → 1 ≤ t.c i
  top : ∀ i, i < t.n → 0 ≤ t.k i → t.c i ≤ 1000000
  esc : Has t 256 1
theorem Mid.anyδ {t : T} {δ : Int} (h : Mid t (-1) δ) (ε : Int) : Mid t (-1) ε := ⟨h.toShape, fun i e hi => by
  have := h.sums i e hi
  have u := (h.up i e hi).1
  rw [if_neg (by omega)] at this ⊢
  exact this, h.srt, h.pos, h.pl⟩
theorem Mid.at {t : T} {δ : Int} (h : Mid t (-1) δ) {p : Nat} (hp : p < t.n) (hk : t.k p ≠ -1) (ε : Int) : Mid t p ε := ⟨h.toShape, fun i e hi => by
  have := h.sums i e hi
  have u := h.up i e hi
  rw [if_neg (by omega)] at this
  rw [if_neg (fun z => hk (by rw [← u.2.2, z]; simp))]
  exact this, h.srt, h.pos, by omega⟩
/-- what a deed does to the counts -/
def Chg (t t' : T) (z δ : Int) : Prop := ∀ z' m, 0 ≤ z' → (Has t' z' m ↔ Has t z' (if z' = z then m - δ else m))
theorem has_fun {t : T} (h : Shape t) {z m m' : Int} (hz : 0 ≤ z) (a : Has t z m) (b : Has t z m') : m = m' := by
  obtain ⟨i, hi, h1, h2⟩ := a
  obtain ⟨j, hj, h3, h4⟩ := b
  have e := h.dist i j hi hj (by rw [h1]; exact hz) (by rw [h1, h3])
  subst e
  rw [← h2, ← h4]
theorem step_has {t : T} {p g : Nat} {δ z m : Int} (hm : Mid (next t p g δ) (t.u g) δ) (w : Goal t p g δ) (hz : 0 ≤ z) (sh : Shape (exch t p g)) : Has (next t p g δ) z m ↔ Has t z (if z = t.k p then m - δ else m) := by
  have e : (exch t p g).k g = t.k p := next_k (δ := δ)
  by_cases c : z = t.k p
  · rw [if_pos c]
    unfold next
    rw [has_bump_same sh w.hg (e.trans c.symm) hz, has_exch w.hp w.hg w.eq.symm]
  · rw [if_neg c]
    unfold next
    rw [has_bump (by rw [e]; exact fun q => c q.symm), has_exch w.hp w.hg w.eq.symm]
theorem steps_inv {δ : Int} {t t' : T} {q : Int} (s : Steps δ t q t') : ∀ p : Nat, q = p → ∃ g, Goal t p g δ ∧ Steps δ (next t p g δ) (t.u g) t' := by
  cases s with
  | done h => intro p e; omega
  | step w s =>
    intro p' e
    have e := Int.ofNat.inj e
    subst e
    exact ⟨_, w, s⟩
theorem free_of {t : T} {p g : Nat} {δ : Int} (h : Mid t p δ) (w : Goal t p g δ) (hd : δ = 1 ∨ δ = -1) (h1 : δ = 1 → ∀ i, i < t.n → 1 ≤ t.c i ∨ (i : Int) = p) : p ≠ g → Free t p g := by
  rcases hd with rfl | rfl
  · exact goal_free1 h (fun i hi => (h1 rfl i hi).imp id (by omega)) w
  · exact goal_free2 h w
theorem exch_shape' {t : T} {p g : Nat} {δ : Int} (h : Mid t p δ) (f : p ≠ g → Free t p g) : Shape (exch t p g) := by
  by_cases e : p = g
  · subst e; rw [exch_self]; exact h.toShape
  · exact exch_shape h.toShape (f e)
/-- behind a step: the counts of one at least, what stands above -/
theorem next_c1 {t : T} {p g : Nat} (h : Mid t p 1) (w : Goal t p g 1) (h1 : ∀ i, i < t.n → 1 ≤ t.c i ∨ (i : Int) = p) : ∀ i, i < t.n → 1 ≤ (next t p g 1).c i := fun i hi => by
  have ec : (exch t p g).c = t.c := exch_c w.eq.symm
  show 1 ≤ (if i = g then (exch t p g).c i + 1 else (exch t p g).c i)
  rw [ec]
  have p1 := h.pos i hi
  by_cases e : i = g
  · rw [if_pos e]; omega
  · rw [if_neg e]
    rcases h1 i hi with q | q
    · exact q
    · have e2 : i = p := by omega
      subst e2
      have hg1 := (h1 g w.hg).resolve_right (by omega)
      have := w.eq
      omega
theorem next_up {t : T} {p g : Nat} {δ : Int} : (next t p g δ).u g = t.u g := by
  show (if g = p ∨ g = g then t.u g else _) = t.u g
  rw [if_pos (.inr rfl)]
theorem above {t : T} {p g : Nat} {δ : Int} (hg : g < t.n) (m : Mid (next t p g δ) (t.u g) δ) (h0 : 0 ≤ t.u g) : g + 1 < t.n ∧ (next t p g δ).k (t.u g).toNat = -1 ∧ (δ = -1 → 1 ≤ (next t p g δ).c (t.u g).toNat) := by
  have hug : (next t p g δ).u g = t.u g := next_up
  have hl : g + 1 < t.n := by
    by_cases hl : g + 1 < t.n
    · exact hl
    · have e := m.root' (i := g) (by show g + 1 = t.n; omega)
      rw [hug] at e; omega
  refine ⟨hl, ?_, ?_⟩
  · have := m.upAny (i := g) hl
    rw [hug] at this
    exact this.2.2
  · rintro rfl
    obtain ⟨i, e, hi, hu⟩ : ∃ i, i % 2 = 0 ∧ i + 1 < (next t p g (-1)).n ∧ (next t p g (-1)).u i = t.u g := by
      rcases Nat.mod_two_eq_zero_or_one g with z | z
      · exact ⟨g, z, hl, hug⟩
      · refine ⟨g - 1, by omega, by show g - 1 + 1 < t.n; omega, ?_⟩
        have := m.pair (g - 1) (by omega) (by show g - 1 + 1 < t.n; omega)
        have e1 : g - 1 + 1 = g := by omega
        rw [e1, hug] at this
        exact this.symm
    have sm := m.sums i e hi
    rw [hu, if_pos rfl] at sm
    have a := m.pos i (by omega)
    have b := m.pos (i + 1) hi
    omega
theorem steps_chg {δ : Int} {t t' : T} {p : Nat} (s : Steps δ t p t') (h : Mid t p δ) (hd : δ = 1 ∨ δ = -1) (h1 : δ = 1 → ∀ i, i < t.n → 1 ≤ t.c i ∨ (i : Int) = p) (h2 : δ = -1 → 1 ≤ t.c p) : Chg t t' (t.k p) δ := by
  obtain ⟨g, w, s⟩ := steps_inv s p rfl
  have f := free_of h w hd h1
  have m := next_mid h w f hd h2
  intro z v hz
  rw [steps_has s m hd ?_ ?_ ?_ z v hz, step_has m w hz (exch_shape' h f)]
  · rintro rfl i hi
    exact .inl (next_c1 h w (h1 rfl) i hi)
  · rintro rfl h0
    exact (above w.hg m h0).2.2 rfl
  · exact fun h0 => (above w.hg m h0).2.1
/-- raised -/
theorem raise_right {t t' : T} {p : Nat} (r : Right t) (hp : p < t.n) (hk : 0 ≤ t.k p) (hz : t.k p ≠ 256) (hc : t.c p < 1000000) (s : Steps 1 t p t') : Right t' ∧ Chg t t' (t.k p) 1 := by
  have m := r.mid.at hp (by omega) 1
  have h1 : ∀ i, i < t.n → 1 ≤ t.c i ∨ (i : Int) = p := fun i hi => .inl (r.c1 i hi)
  have ch := steps_chg s m (.inl rfl) (fun _ => h1) (by omega)
  obtain ⟨m', c'⟩ := steps_up s m h1
  refine ⟨⟨m', c' (.inl (by omega)), fun i hi h0 => ?_, ?_⟩, ch⟩
  · have q := (ch (t'.k i) (t'.c i) h0).mp ⟨i, hi, rfl, rfl⟩
    obtain ⟨j, hj, e1, e2⟩ := q
    by_cases c : t'.k i = t.k p
    · rw [if_pos c] at e2
      have := r.mid.dist j p hj hp (by omega) (by omega)
      subst this
      omega
    · rw [if_neg c] at e2
      have := r.top j hj (by omega)
      omega
  · rw [ch 256 1 (by omega), if_neg (by omega)]; exact r.esc
/-- lowered -/
theorem lower_right {t t' : T} {p : Nat} (r : Right t) (hp : p < t.n) (hk : 0 ≤ t.k p) (hz : t.k p ≠ 256) (hc : 2 ≤ t.c p) (s : Steps (-1) t p t') : Right t' ∧ Chg t t' (t.k p) (-1) := by
  have m := r.mid.at hp (by omega) (-1)
  have ch := steps_chg s m (.inr rfl) (by omega) (fun _ => r.c1 p hp)
  have m' := steps_dn s m (fun _ => by simpa using r.c1 p hp)
  have c1 : ∀ i, i < t'.n → 1 ≤ t'.c i := fun i => by
    -- leaves by the counts, pairs by their sums
    induction i using Nat.strongRecOn with
    | ind i ih =>
      intro hi
      rcases (show t'.k i = -1 ∨ 0 ≤ t'.k i by have := m'.kd i hi; omega) with e | e
      · obtain ⟨j, ej, hj, hu⟩ := m'.ons i hi e
        have sm := m'.sums j ej hj
        have u := m'.up j ej hj
        rw [if_neg (by omega), hu] at sm
        simp at sm
        have a := ih j (by omega) (by omega)
        have b := m'.pos (j + 1) hj
        omega
      · obtain ⟨j, hj, e1, e2⟩ := (ch (t'.k i) (t'.c i) e).mp ⟨i, hi, rfl, rfl⟩
        have := r.c1 j hj
        by_cases c : t'.k i = t.k p
        · rw [if_pos c] at e2
          have := r.mid.dist j p hj hp (by omega) (by omega)
          subst this
          omega
        · rw [if_neg c] at e2; omega
  refine ⟨⟨m'.anyδ 1, c1, fun i hi h0 => ?_, ?_⟩, ch⟩
  · obtain ⟨j, hj, e1, e2⟩ := (ch (t'.k i) (t'.c i) h0).mp ⟨i, hi, rfl, rfl⟩
    by_cases c : t'.k i = t.k p
    · rw [if_pos c] at e2
      have := r.top j hj (by omega)
      omega
    · rw [if_neg c] at e2
      have := r.top j hj (by omega)
      omega
  · rw [ch 256 1 (by omega), if_neg (by omega)]; exact r.esc

/-! ## a letter enters -/
def mu (u : Int) : Int := if u < 0 then -1 else u + 2
def md (u : Int) : Int := if u < 0 then -1 else u - 2
def entT (t : T) (z : Int) : T := ⟨t.n + 2, fun i => if i = 0 then z else if i = 1 then t.k 0 else if i = 2 then -1 else t.k (i - 2), fun i => if i = 0 then 0 else if i = 1 then t.c 0 else t.c (i - 2), fun i => if i < 2 then 2 else mu (t.u (i - 2))⟩
theorem ent_mid {t : T} {z : Int} (r : Right t) (h0 : 0 ≤ z) (h1 : z ≤ 256) (hn : ∀ i, i < t.n → t.k i ≠ z) : Mid (entT t z) 0 1 := by
  have hodd := r.mid.odd
  have k0 : t.k 0 ≠ -1 := fun e => by
    obtain ⟨i, ei, hi, hu⟩ := r.mid.ons 0 (by omega) e
    have := (r.mid.up i ei hi).1
    omega
  have hu : ∀ i, 2 ≤ i → (entT t z).u i = mu (t.u (i - 2)) := fun i hi => by show (if i < 2 then (2 : Int) else _) = _; rw [if_neg (by omega)]
  have hk : ∀ i, 3 ≤ i → (entT t z).k i = t.k (i - 2) := fun i hi => by show (if i = 0 then z else _) = _; rw [if_neg (by omega), if_neg (by omega), if_neg (by omega)]
  have hc : ∀ i, 2 ≤ i → (entT t z).c i = t.c (i - 2) := fun i hi => by show (if i = 0 then (0 : Int) else _) = _; rw [if_neg (by omega), if_neg (by omega)]
  have nn : (entT t z).n = t.n + 2 := rfl
  have ev : ∀ i, i % 2 = 0 → i + 1 < t.n + 2 → 2 ≤ i → (entT t z).u i = t.u (i - 2) + 2 ∧ 4 ≤ (entT t z).u i ∧ (i : Int) + 1 < (entT t z).u i ∧ (entT t z).u i < t.n + 2 := fun i e hi h2 => by
    have u := r.mid.up (i - 2) (by omega) (by omega)
    have : (entT t z).u i = t.u (i - 2) + 2 := by rw [hu i h2]; unfold mu; rw [if_neg (by omega)]
    exact ⟨this, by omega, by omega, by omega⟩
  refine ⟨⟨by rw [nn]; omega, ?_, ?_, ?_, ?_, ?_, ?_, ?_⟩, ?_, ?_, ?_, ?_⟩
  · rw [nn, hu _ (by omega)]
    have e : t.n + 2 - 1 - 2 = t.n - 1 := by omega
    rw [e, r.mid.root]; rfl
  · intro i e hi
    by_cases h2 : 2 ≤ i
    · rw [hu _ (by omega), hu _ h2]
      have e2 : i + 1 - 2 = i - 2 + 1 := by omega
      rw [e2, r.mid.pair (i - 2) (by omega) (by omega)]
    · have : i = 0 := by omega
      subst this; rfl
  · intro i e hi
    by_cases h2 : 2 ≤ i
    · obtain ⟨a, b, c, d⟩ := ev i e hi h2
      refine ⟨c, d, ?_⟩
      rw [hk _ (by omega)]
      have u := r.mid.up (i - 2) (by omega) (by omega)
      have e2 : ((entT t z).u i).toNat - 2 = (t.u (i - 2)).toNat := by omega
      rw [e2]; exact u.2.2
    · have : i = 0 := by omega
      subst this
      refine ⟨by show (0 : Int) + 1 < 2; omega, by show (2 : Int) < ((t.n + 2 : Nat) : Int); omega, rfl⟩
  · intro i j ei ej hi hj e
    by_cases h2 : 2 ≤ i
    · by_cases h3 : 2 ≤ j
      · have := r.mid.inj (i - 2) (j - 2) (by omega) (by omega) (by omega) (by omega) (by have := (ev i ei hi h2).1; have := (ev j ej hj h3).1; omega)
        omega
      · have : j = 0 := by omega
        subst this
        have e2 : (entT t z).u 0 = 2 := rfl
        have := (ev i ei hi h2).2.1
        omega
    · have : i = 0 := by omega
      subst this
      by_cases h3 : 2 ≤ j
      · have e2 : (entT t z).u 0 = 2 := rfl
        have := (ev j ej hj h3).2.1
        omega
      · omega
  · intro q hq e
    rw [nn] at hq
    by_cases h3 : 3 ≤ q
    · rw [hk _ h3] at e
      obtain ⟨i, ei, hi, hu2⟩ := r.mid.ons (q - 2) (by omega) e
      refine ⟨i + 2, by omega, by rw [nn]; omega, ?_⟩
      have := (ev (i + 2) (by omega) (by omega) (by omega)).1
      rw [show i + 2 - 2 = i by omega] at this
      omega
    · rcases (show q = 0 ∨ q = 1 ∨ q = 2 by omega) with rfl | rfl | rfl
      · have e : z = -1 := e; omega
      · exact absurd e k0
      · exact ⟨0, rfl, by rw [nn]; omega, rfl⟩
  · intro i hi
    rw [nn] at hi
    by_cases h3 : 3 ≤ i
    · rw [hk _ h3]; exact r.mid.kd _ (by omega)
    · rcases (show i = 0 ∨ i = 1 ∨ i = 2 by omega) with rfl | rfl | rfl
      · show -1 ≤ z ∧ z ≤ 256; omega
      · exact r.mid.kd 0 (by omega)
      · show -1 ≤ (-1 : Int) ∧ (-1 : Int) ≤ 256; omega
  · intro i j hi hj h e
    rw [nn] at hi hj
    have cl : ∀ i, i < t.n + 2 → 0 ≤ (entT t z).k i → i ≠ 0 → ∃ i', i' < t.n ∧ (entT t z).k i = t.k i' ∧ ((i = 1 ∧ i' = 0) ∨ (i = i' + 2 ∧ 1 ≤ i')) := fun i hi h0 ne => by
      by_cases h3 : 3 ≤ i
      · exact ⟨i - 2, by omega, hk _ h3, .inr (by omega)⟩
      · rcases (show i = 1 ∨ i = 2 by omega) with rfl | rfl
        · exact ⟨0, by omega, rfl, .inl ⟨rfl, rfl⟩⟩
        · have h0 : 0 ≤ (-1 : Int) := h0; omega
    have z0 : (entT t z).k 0 = z := rfl
    by_cases ci : i = 0
    · by_cases cj : j = 0
      · omega
      · obtain ⟨j', hj', ej, _⟩ := cl j hj (by rw [← e]; exact h) cj
        rw [ci, z0, ej] at e
        exact absurd e.symm (hn j' hj')
    · by_cases cj : j = 0
      · obtain ⟨i', hi', ei, _⟩ := cl i hi h ci
        rw [cj, z0, ei] at e
        exact absurd e (hn i' hi')
      · obtain ⟨i', hi', ei, oi⟩ := cl i hi h ci
        obtain ⟨j', hj', ej, oj⟩ := cl j hj (by rw [← e]; exact h) cj
        have := r.mid.dist i' j' hi' hj' (by rw [← ei]; exact h) (by rw [← ei, e, ej])
        omega
  · intro i e hi
    by_cases h2 : 2 ≤ i
    · obtain ⟨a, b, c, d⟩ := ev i e hi h2
      rw [if_neg (by omega), hc i h2, hc (i + 1) (by omega), hc _ (by omega)]
      have sm := r.mid.sums (i - 2) (by omega) (by omega)
      have u := (r.mid.up (i - 2) (by omega) (by omega)).1
      rw [if_neg (by omega)] at sm
      have e1 : ((entT t z).u i).toNat - 2 = (t.u (i - 2)).toNat := by omega
      have e2 : i + 1 - 2 = i - 2 + 1 := by omega
      rw [e1, e2]; exact sm
    · have : i = 0 := by omega
      subst this
      show t.c 0 + (if (2 : Int) = 0 then 1 else 0) = 0 + t.c 0
      simp
  · intro i hi
    rw [nn] at hi
    by_cases h2 : 2 ≤ i
    · rw [hc _ h2, hc _ (by omega)]
      have e2 : i + 1 - 2 = i - 2 + 1 := by omega
      rw [e2]; exact r.mid.srt (i - 2) (by omega)
    · rcases (show i = 0 ∨ i = 1 by omega) with rfl | rfl
      · show (0 : Int) ≤ t.c 0
        exact r.mid.pos 0 (by omega)
      · show t.c 0 ≤ t.c (1 + 1 - 2)
        exact Int.le_refl _
  · intro i hi
    rw [nn] at hi
    by_cases h2 : 2 ≤ i
    · rw [hc _ h2]; exact r.mid.pos _ (by omega)
    · rcases (show i = 0 ∨ i = 1 by omega) with rfl | rfl
      · show (0 : Int) ≤ 0; omega
      · exact r.mid.pos 0 (by omega)
  · rw [nn]; omega
end LS
namespace LS

theorem ent_has {t : T} {z : Int} (r : Right t) (h0 : 0 ≤ z) (hn : ∀ i, i < t.n → t.k i ≠ z) {z' v : Int} (hz : 0 ≤ z') : Has (entT t z) z' v ↔ (if z' = z then v = 0 else Has t z' v) := by
  have hodd := r.mid.odd
  have hk : ∀ i, 3 ≤ i → (entT t z).k i = t.k (i - 2) := fun i hi => by show (if i = 0 then z else _) = _; rw [if_neg (by omega), if_neg (by omega), if_neg (by omega)]
  have hc : ∀ i, 2 ≤ i → (entT t z).c i = t.c (i - 2) := fun i hi => by show (if i = 0 then (0 : Int) else _) = _; rw [if_neg (by omega), if_neg (by omega)]
  have nn : (entT t z).n = t.n + 2 := rfl
  constructor
  · rintro ⟨i, hi, e1, e2⟩
    rw [nn] at hi
    by_cases h3 : 3 ≤ i
    · rw [hk _ h3] at e1
      rw [hc _ (by omega)] at e2
      rw [if_neg (fun q => hn (i - 2) (by omega) (by rw [e1, q]))]
      exact ⟨i - 2, by omega, e1, e2⟩
    · rcases (show i = 0 ∨ i = 1 ∨ i = 2 by omega) with rfl | rfl | rfl
      · have e1 : z = z' := e1
        have e2 : (0 : Int) = v := e2
        rw [if_pos e1.symm]; exact e2.symm
      · have e1 : t.k 0 = z' := e1
        have e2 : t.c 0 = v := e2
        rw [if_neg (fun q => hn 0 (by omega) (by rw [e1, q]))]
        exact ⟨0, by omega, e1, e2⟩
      · have e1 : (-1 : Int) = z' := e1
        omega
  · intro h
    split at h
    · rename_i q
      exact ⟨0, by rw [nn]; omega, q.symm, h.symm⟩
    · obtain ⟨i, hi, e1, e2⟩ := h
      by_cases i0 : i = 0
      · subst i0; exact ⟨1, by rw [nn]; omega, e1, e2⟩
      · refine ⟨i + 2, by rw [nn]; omega, ?_, ?_⟩
        · rw [hk _ (by omega)]; exact e1
        · rw [hc _ (by omega)]; exact e2
theorem enter_right {t t' : T} {z : Int} (r : Right t) (h0 : 0 ≤ z) (h1 : z < 256) (hn : ∀ i, i < t.n → t.k i ≠ z) (s : Steps 1 (entT t z) 0 t') : Right t' ∧ ∀ z' v, 0 ≤ z' → (Has t' z' v ↔ if z' = z then v = 1 else Has t z' v) := by
  have m := ent_mid r h0 (by omega) hn
  have hp : ∀ i, i < (entT t z).n → 1 ≤ (entT t z).c i ∨ (i : Int) = 0 := fun i hi => by
    have hodd := r.mid.odd
    have hi : i < t.n + 2 := hi
    by_cases i0 : i = 0
    · right; omega
    · left
      show 1 ≤ (if i = 0 then (0 : Int) else if i = 1 then t.c 0 else t.c (i - 2))
      rw [if_neg i0]
      split
      · exact r.c1 0 (by omega)
      · exact r.c1 (i - 2) (by omega)
  have ch := steps_chg (p := 0) s m (.inl rfl) (fun _ => hp) (by omega)
  obtain ⟨m', c'⟩ := steps_up s m hp
  have hs : ∀ z' v, 0 ≤ z' → (Has t' z' v ↔ if z' = z then v = 1 else Has t z' v) := fun z' v hz => by
    have e : (entT t z).k 0 = z := rfl
    rw [ch z' v hz, e]
    by_cases q : z' = z
    · rw [if_pos q, if_pos q, ent_has r h0 hn hz, if_pos q]; omega
    · rw [if_neg q, if_neg q, ent_has r h0 hn hz, if_neg q]
  refine ⟨⟨m', c' (.inl (by omega)), fun i hi hk => ?_, ?_⟩, hs⟩
  · have := (hs _ _ hk).mp ⟨i, hi, rfl, rfl⟩
    split at this
    · omega
    · obtain ⟨j, hj, e1, e2⟩ := this
      have := r.top j hj (by omega); omega
  · rw [hs 256 1 (by omega), if_neg (by omega)]; exact r.esc

/-! ## a letter leaves -/
def leaT (t : T) : T := ⟨t.n - 2, fun i => if ((i : Nat) : Int) + 2 = t.u 0 then t.k 1 else t.k (i + 2), fun i => t.c (i + 2), fun i => md (t.u (i + 2))⟩
/-- the row that a letter can be taken out of -/
structure Out (t : T) (z : Int) : Prop where
  mid : Mid t (-1) (-1)
  k0 : t.k 0 = z
  c0 : t.c 0 = 0
  n3 : 3 ≤ t.n
  c1 : ∀ i, 0 < i → i < t.n → 1 ≤ t.c i
theorem out_facts {t : T} {z : Int} (o : Out t z) : 1 < t.u 0 ∧ t.u 0 < t.n ∧ t.k (t.u 0).toNat = -1 ∧ t.u 1 = t.u 0 ∧ 0 ≤ t.k 1 ∧ t.c (t.u 0).toNat = t.c 1 := by
  have u := o.mid.up 0 rfl (by have := o.n3; omega)
  have sm := o.mid.sums 0 rfl (by have := o.n3; omega)
  rw [if_neg (by omega), o.c0] at sm
  have k1 : t.k 1 ≠ -1 := fun e => by
    obtain ⟨i, ei, hi, hu⟩ := o.mid.ons 1 (by have := o.n3; omega) e
    have := (o.mid.up i ei hi).1
    omega
  have kd := o.mid.kd 1 (by have := o.n3; omega)
  exact ⟨by omega, u.2.1, u.2.2, o.mid.pair 0 rfl (by have := o.n3; omega), by omega, by simpa using sm⟩
theorem lea_mid {t : T} {z : Int} (o : Out t z) (hz : 0 ≤ z) : Mid (leaT t) (-1) 1 ∧ (∀ i, i < (leaT t).n → 1 ≤ (leaT t).c i) ∧ ∀ z' v, 0 ≤ z' → (Has (leaT t) z' v ↔ z' ≠ z ∧ Has t z' v) := by
  obtain ⟨u1, u2, u3, u4, k1, cp⟩ := out_facts o
  have n3 := o.n3
  have odd := o.mid.odd
  have nn : (leaT t).n = t.n - 2 := rfl
  have hP : t.u 0 = ((t.u 0).toNat : Nat) := by omega
  have hk : ∀ i : Nat, ((i : Nat) : Int) + 2 ≠ t.u 0 → (leaT t).k i = t.k (i + 2) := fun i hi => by show (if ((i : Nat) : Int) + 2 = t.u 0 then t.k 1 else t.k (i + 2)) = _; rw [if_neg hi]
  have hkP : ∀ i : Nat, ((i : Nat) : Int) + 2 = t.u 0 → (leaT t).k i = t.k 1 := fun i hi => by show (if ((i : Nat) : Int) + 2 = t.u 0 then t.k 1 else t.k (i + 2)) = _; rw [if_pos hi]
  have ev : ∀ i, i % 2 = 0 → i + 1 < t.n - 2 → (leaT t).u i = t.u (i + 2) - 2 ∧ (i : Int) + 1 < (leaT t).u i ∧ (leaT t).u i < ((t.n - 2 : Nat) : Int) ∧ t.u (i + 2) ≠ t.u 0 := fun i e hi => by
    have u := o.mid.up (i + 2) (by omega) (by omega)
    have e1 : (leaT t).u i = t.u (i + 2) - 2 := by show md (t.u (i + 2)) = _; unfold md; rw [if_neg (by omega)]
    refine ⟨e1, by omega, by omega, fun q => ?_⟩
    have := o.mid.inj (i + 2) 0 (by omega) rfl (by omega) (by omega) q
    omega
  refine ⟨⟨⟨by rw [nn]; omega, ?_, ?_, ?_, ?_, ?_, ?_, ?_⟩, ?_, ?_, ?_, ?_⟩, ?_, ?_⟩
  · rw [nn]
    show md (t.u (t.n - 2 - 1 + 2)) = -1
    rw [show t.n - 2 - 1 + 2 = t.n - 1 by omega, o.mid.root]; rfl
  · intro i e hi
    rw [nn] at hi
    show md (t.u (i + 1 + 2)) = md (t.u (i + 2))
    rw [show i + 1 + 2 = i + 2 + 1 by omega, o.mid.pair (i + 2) (by omega) (by omega)]
  · intro i e hi
    rw [nn] at hi
    obtain ⟨a, b, c, d⟩ := ev i e hi
    refine ⟨b, by rw [nn]; exact c, ?_⟩
    have u := o.mid.up (i + 2) (by omega) (by omega)
    rw [hk _ (by omega)]
    rw [show ((leaT t).u i).toNat + 2 = (t.u (i + 2)).toNat by omega]
    exact u.2.2
  · intro i j ei ej hi hj e
    rw [nn] at hi hj
    have := o.mid.inj (i + 2) (j + 2) (by omega) (by omega) (by omega) (by omega) (by have := (ev i ei hi).1; have := (ev j ej hj).1; omega)
    omega
  · intro q hq e
    rw [nn] at hq
    by_cases c : ((q : Nat) : Int) + 2 = t.u 0
    · rw [hkP q c] at e; omega
    · rw [hk q c] at e
      obtain ⟨i, ei, hi, hu⟩ := o.mid.ons (q + 2) (by omega) e
      have i0 : i ≠ 0 := fun z => by subst z; omega
      refine ⟨i - 2, by omega, by rw [nn]; omega, ?_⟩
      have := (ev (i - 2) (by omega) (by omega)).1
      rw [show i - 2 + 2 = i by omega] at this
      omega
  · intro i hi
    rw [nn] at hi
    by_cases c : ((i : Nat) : Int) + 2 = t.u 0
    · rw [hkP i c]; exact o.mid.kd 1 (by omega)
    · rw [hk i c]; exact o.mid.kd _ (by omega)
  · intro i j hi hj h e
    rw [nn] at hi hj
    by_cases ci : ((i : Nat) : Int) + 2 = t.u 0
    · by_cases cj : ((j : Nat) : Int) + 2 = t.u 0
      · omega
      · rw [hkP i ci, hk j cj] at e
        have := o.mid.dist 1 (j + 2) (by omega) (by omega) k1 e
        omega
    · by_cases cj : ((j : Nat) : Int) + 2 = t.u 0
      · rw [hk i ci, hkP j cj] at e
        have := o.mid.dist 1 (i + 2) (by omega) (by omega) k1 e.symm
        omega
      · rw [hk i ci] at h e
        rw [hk j cj] at e
        have := o.mid.dist (i + 2) (j + 2) (by omega) (by omega) h e
        omega
  · intro i e hi
    rw [nn] at hi
    obtain ⟨a, b, c, d⟩ := ev i e hi
    rw [if_neg (by omega)]
    have sm := o.mid.sums (i + 2) (by omega) (by omega)
    have u := (o.mid.up (i + 2) (by omega) (by omega)).1
    rw [if_neg (by omega)] at sm
    show t.c (((leaT t).u i).toNat + 2) + 0 = t.c (i + 2) + t.c (i + 1 + 2)
    rw [show ((leaT t).u i).toNat + 2 = (t.u (i + 2)).toNat by omega, show i + 1 + 2 = i + 2 + 1 by omega]
    exact sm
  · intro i hi
    rw [nn] at hi
    exact o.mid.srt (i + 2) (by omega)
  · intro i hi
    rw [nn] at hi
    exact o.mid.pos (i + 2) (by omega)
  · rw [nn]; omega
  · intro i hi
    rw [nn] at hi
    exact o.c1 (i + 2) (by omega) (by omega)
  · intro z' v hz'
    constructor
    · rintro ⟨i, hi, e1, e2⟩
      rw [nn] at hi
      have e2 : t.c (i + 2) = v := e2
      by_cases c : ((i : Nat) : Int) + 2 = t.u 0
      · rw [hkP i c] at e1
        refine ⟨fun q => ?_, 1, by omega, e1, ?_⟩
        · have := o.mid.dist 1 0 (by omega) (by omega) k1 (by rw [o.k0, e1, q])
          omega
        · rw [← e2, ← cp]
          rw [show (t.u 0).toNat = i + 2 by omega]
      · rw [hk i c] at e1
        refine ⟨fun q => ?_, i + 2, by omega, e1, e2⟩
        have := o.mid.dist (i + 2) 0 (by omega) (by omega) (by omega) (by rw [o.k0, e1, q])
        omega
    · rintro ⟨ne, i, hi, e1, e2⟩
      have i0 : i ≠ 0 := fun q => ne (by rw [← e1, q, o.k0])
      by_cases i1 : i = 1
      · subst i1
        refine ⟨(t.u 0).toNat - 2, by rw [nn]; omega, ?_, ?_⟩
        · rw [hkP _ (by omega)]; exact e1
        · show t.c ((t.u 0).toNat - 2 + 2) = v
          rw [show (t.u 0).toNat - 2 + 2 = (t.u 0).toNat by omega, cp, e2]
      · refine ⟨i - 2, by rw [nn]; omega, ?_, ?_⟩
        · rw [hk _ (fun q => by
            have : i = (t.u 0).toNat := by omega
            rw [this, u3] at e1; omega)]
          rw [show i - 2 + 2 = i by omega]; exact e1
        · show t.c (i - 2 + 2) = v
          rw [show i - 2 + 2 = i by omega]; exact e2
/-- what sinks from count one comes to the first place -/
theorem steps_low {t t' : T} {p : Int} (s : Steps (-1) t p t') (h : Mid t p (-1)) (hc0 : t.c 0 = 0) (hc : ∀ i, 0 < i → i < t.n → 1 ≤ t.c i ∨ (i : Int) = p) (hp : p = -1 ∨ 2 ≤ p) (h1 : 0 ≤ p → 1 ≤ t.c p.toNat ∧ t.k p.toNat = -1) :
    t'.k 0 = t.k 0 ∧ t'.c 0 = 0 := by
  induction s with
  | done _ => exact ⟨rfl, hc0⟩
  | @step t t' p g w s ih =>
    have hpp : 2 ≤ p := by omega
    have cp : 1 ≤ t.c p := by simpa using (h1 (by omega)).1
    have g0 : g ≠ 0 := fun e => by have := w.eq; rw [e, hc0] at this; omega
    have f : p ≠ g → Free t p g := goal_free2 h w
    have m := next_mid h w f (.inr rfl) (fun _ => cp)
    have ec : (exch t p g).c = t.c := exch_c w.eq.symm
    have n0 : (next t p g (-1)).c 0 = 0 := by
      show (if 0 = g then (exch t p g).c 0 + -1 else (exch t p g).c 0) = 0
      rw [if_neg (Ne.symm g0), ec]; exact hc0
    have k0 : (next t p g (-1)).k 0 = t.k 0 := by
      show t.k (tau p g 0) = t.k 0
      unfold tau; rw [if_neg (by omega), if_neg (Ne.symm g0)]
    have ab := fun h0 => above w.hg m h0
    have hc' : ∀ i, 0 < i → i < (next t p g (-1)).n → 1 ≤ (next t p g (-1)).c i ∨ (i : Int) = t.u g := fun i hi0 hi => by
      have hi' : i < t.n := hi
      left
      show 1 ≤ (if i = g then (exch t p g).c i + -1 else (exch t p g).c i)
      rw [ec]
      by_cases e : i = g
      · rw [if_pos e, e, w.eq]
        obtain ⟨j, ej, hj, hu⟩ := h.ons p w.hp (by simpa using (h1 (by omega)).2)
        have sm := h.sums j ej hj
        have uj := (h.up j ej hj).1
        rw [hu, if_pos rfl] at sm
        simp only [Int.toNat_natCast] at sm
        have a := h.pos j (by omega)
        rcases hc (j + 1) (by omega) hj with q | q
        · omega
        · omega
      · rw [if_neg e]
        rcases hc i hi0 hi' with q | q
        · exact q
        · have : i = p := by omega
          rw [this]; exact cp
    have hp' : t.u g = -1 ∨ 2 ≤ t.u g := by
      have := m.pl
      by_cases h0 : 0 ≤ t.u g
      · have hl := (ab h0).1
        have := (h.upAny (i := g) hl).1
        omega
      · omega
    obtain ⟨a, b⟩ := ih m n0 hc' hp' (fun h0 => ⟨(ab h0).2.2 rfl, (ab h0).2.1⟩)
    exact ⟨a.trans k0, b⟩
theorem leave_right {t t' : T} {p : Nat} (r : Right t) (hp : p < t.n) (hk : 0 ≤ t.k p) (hz : t.k p ≠ 256) (hc : t.c p = 1) (s : Steps (-1) t p t') : Out t' (t.k p) ∧ Right (leaT t') ∧ ∀ z' v, 0 ≤ z' → (Has (leaT t') z' v ↔ z' ≠ t.k p ∧ Has t z' v) := by
  have m0 := r.mid.at hp (by omega) (-1)
  have ch := steps_chg s m0 (.inr rfl) (by omega) (fun _ => by omega)
  have m' := steps_dn s m0 (fun _ => by simp; omega)
  have n' := steps_n s
  have hodd := r.mid.odd
  -- 256 is beside it
  obtain ⟨x, hx, hx1, hx2⟩ := r.esc
  have n3 : 3 ≤ t.n := by
    have : x ≠ p := fun e => hz (by rw [← e]; exact hx1)
    omega
  -- the first step
  obtain ⟨g, w, s2⟩ := steps_inv s p rfl
  have g0 : g = 0 := by
    by_cases e : g = 0
    · exact e
    · have := (w.dn rfl).2 (by omega)
      have := r.c1 (g - 1) (by have := w.hg; omega)
      have := w.eq
      omega
  subst g0
  have f : p ≠ 0 → Free t p 0 := goal_free2 m0 w
  have m := next_mid m0 w f (.inr rfl) (fun _ => by omega)
  have ec : (exch t p 0).c = t.c := exch_c w.eq.symm
  have k0 : (next t p 0 (-1)).k 0 = t.k p := next_k
  have c0 : (next t p 0 (-1)).c 0 = 0 := by
    show (if (0 : Nat) = 0 then (exch t p 0).c 0 + -1 else (exch t p 0).c 0) = 0
    rw [if_pos rfl, ec, w.eq, hc]; rfl
  have cc : ∀ i, 0 < i → i < t.n → 1 ≤ (next t p 0 (-1)).c i := fun i hi0 hi => by
    show 1 ≤ (if i = 0 then (exch t p 0).c i + -1 else (exch t p 0).c i)
    rw [if_neg (by omega), ec]; exact r.c1 i hi
  have up0 : 2 ≤ t.u 0 := by
    have := (r.mid.up 0 rfl (by omega)).1; omega
  obtain ⟨a, b⟩ := steps_low s2 m c0 (fun i h0 hi => .inl (cc i h0 hi)) (.inr up0) (fun h0 => ⟨(above w.hg m h0).2.2 rfl, (above w.hg m h0).2.1⟩)
  rw [k0] at a
  -- all others stay at one at least
  have c1 : ∀ i, 0 < i → i < t'.n → 1 ≤ t'.c i := fun i => by
    induction i using Nat.strongRecOn with
    | ind i ih =>
      intro hi0 hi
      rcases (show t'.k i = -1 ∨ 0 ≤ t'.k i by have := m'.kd i hi; omega) with e | e
      · obtain ⟨j, ej, hj, hu⟩ := m'.ons i hi e
        have sm := m'.sums j ej hj
        have u := m'.up j ej hj
        rw [if_neg (by omega), hu] at sm
        simp at sm
        have a := ih (j + 1) (by omega) (by omega) (by omega)
        have b := m'.pos j (by omega)
        omega
      · obtain ⟨j, hj, e1, e2⟩ := (ch (t'.k i) (t'.c i) e).mp ⟨i, hi, rfl, rfl⟩
        by_cases c : t'.k i = t.k p
        · have := m'.dist i 0 hi (by omega) e (by rw [c, a])
          omega
        · rw [if_neg c] at e2
          have := r.c1 j hj; omega
  have o : Out t' (t.k p) := ⟨m', a, b, by omega, c1⟩
  obtain ⟨lm, lc, lh⟩ := lea_mid o hk
  have hs : ∀ z' v, 0 ≤ z' → (Has (leaT t') z' v ↔ z' ≠ t.k p ∧ Has t z' v) := fun z' v hz' => by
    rw [lh z' v hz']
    constructor
    · rintro ⟨ne, h⟩
      have := (ch z' v hz').mp h
      rw [if_neg ne] at this
      exact ⟨ne, this⟩
    · rintro ⟨ne, h⟩
      exact ⟨ne, (ch z' v hz').mpr (by rw [if_neg ne]; exact h)⟩
  refine ⟨o, ⟨lm, lc, fun i hi h0 => ?_, (hs 256 1 (by omega)).mpr ⟨fun e => hz e.symm, r.esc⟩⟩, hs⟩
  obtain ⟨_, j, hj, e1, e2⟩ := (hs _ _ h0).mp ⟨i, hi, rfl, rfl⟩
  have := r.top j hj (by omega); omega
end LS
namespace LS

/-! ## joining the two least -/
def isUp (t : T) (i x : Nat) : Bool := (List.range i).any fun j => decide (t.u (2 * j) = x)
theorem isUp_iff {t : T} {i x : Nat} : isUp t i x = true ↔ ∃ j, j < i ∧ t.u (2 * j) = x := by
  unfold isUp
  rw [List.any_eq_true]
  constructor
  · rintro ⟨j, hj, e⟩; exact ⟨j, List.mem_range.mp hj, of_decide_eq_true e⟩
  · rintro ⟨j, hj, e⟩; exact ⟨j, List.mem_range.mpr hj, decide_eq_true e⟩
def avail (t : T) (i : Nat) : List Nat := (List.range t.n).filter fun x => decide (2 * i ≤ x) && (decide (t.k x ≠ -1) || isUp t i x)
def rest (t : T) (i : Nat) : List Nat := (List.range t.n).filter fun x => decide (2 * i + 2 ≤ x) && (decide (t.k x ≠ -1) || isUp t i x)
theorem avail_mem {t : T} {i x : Nat} : x ∈ avail t i ↔ x < t.n ∧ 2 * i ≤ x ∧ (t.k x ≠ -1 ∨ ∃ j, j < i ∧ t.u (2 * j) = x) := by
  unfold avail
  rw [List.mem_filter, List.mem_range, Bool.and_eq_true, Bool.or_eq_true, isUp_iff, decide_eq_true_iff, decide_eq_true_iff]
theorem rest_mem {t : T} {i x : Nat} : x ∈ rest t i ↔ x < t.n ∧ 2 * i + 2 ≤ x ∧ (t.k x ≠ -1 ∨ ∃ j, j < i ∧ t.u (2 * j) = x) := by
  unfold rest
  rw [List.mem_filter, List.mem_range, Bool.and_eq_true, Bool.or_eq_true, isUp_iff, decide_eq_true_iff, decide_eq_true_iff]
theorem filter_nodup {n : Nat} {p : Nat → Bool} : ((List.range n).filter p).Nodup := (List.nodup_range (n := n)).filter _
theorem avail_now {t : T} (h : Shape t) {i : Nat} (hi : 2 * i + 1 < t.n) : (avail t i).Perm (2 * i :: (2 * i + 1) :: rest t i) := by
  have nd : (2 * i :: (2 * i + 1) :: rest t i).Nodup := by
    refine List.nodup_cons.mpr ⟨fun q => ?_, List.nodup_cons.mpr ⟨fun q => ?_, filter_nodup⟩⟩
    · rcases List.mem_cons.mp q with q | q
      · omega
      · have := (rest_mem.mp q).2.1; omega
    · have := (rest_mem.mp q).2.1; omega
  refine (List.perm_ext_iff_of_nodup filter_nodup nd).mpr fun x => ?_
  rw [show (x ∈ List.filter _ _ ↔ _) from avail_mem (t := t) (i := i) (x := x), List.mem_cons, List.mem_cons, rest_mem]
  constructor
  · rintro ⟨a, b, c⟩
    by_cases e : x = 2 * i
    · exact .inl e
    · by_cases e2 : x = 2 * i + 1
      · exact .inr (.inl e2)
      · exact .inr (.inr ⟨a, by omega, c⟩)
  · have low : ∀ x, x < t.n → x ≤ 2 * i + 1 → t.k x ≠ -1 ∨ ∃ j, j < i ∧ t.u (2 * j) = x := fun x hx hl => by
      by_cases e : t.k x = -1
      · obtain ⟨j, ej, hj, hu⟩ := h.ons x hx e
        have := (h.up j ej hj).1
        exact .inr ⟨j / 2, by omega, by rw [show 2 * (j / 2) = j by omega]; exact hu⟩
      · exact .inl e
    rintro (rfl | rfl | ⟨a, b, c⟩)
    · exact ⟨by omega, by omega, low _ (by omega) (by omega)⟩
    · exact ⟨by omega, by omega, low _ (by omega) (by omega)⟩
    · exact ⟨a, by omega, c⟩
theorem avail_next {t : T} (h : Shape t) {i : Nat} (hi : 2 * i + 1 < t.n) : (avail t (i + 1)).Perm ((t.u (2 * i)).toNat :: rest t i) := by
  have u := h.up (2 * i) (by omega) hi
  have nd : ((t.u (2 * i)).toNat :: rest t i).Nodup := by
    refine List.nodup_cons.mpr ⟨fun q => ?_, filter_nodup⟩
    obtain ⟨_, _, q⟩ := rest_mem.mp q
    rcases q with q | ⟨j, hj, q⟩
    · exact q u.2.2
    · have := h.inj (2 * j) (2 * i) (by omega) (by omega) (by omega) hi (by omega)
      omega
  refine (List.perm_ext_iff_of_nodup filter_nodup nd).mpr fun x => ?_
  rw [show (x ∈ List.filter _ _ ↔ _) from avail_mem (t := t) (i := i + 1) (x := x), List.mem_cons, rest_mem]
  constructor
  · rintro ⟨a, b, c⟩
    rcases c with c | ⟨j, hj, c⟩
    · exact .inr ⟨a, by omega, .inl c⟩
    · by_cases e : j = i
      · subst e; exact .inl (by omega)
      · exact .inr ⟨a, by omega, .inr ⟨j, by omega, c⟩⟩
  · rintro (rfl | ⟨a, b, c⟩)
    · exact ⟨by omega, by omega, .inr ⟨i, by omega, by omega⟩⟩
    · refine ⟨a, by omega, c.imp id ?_⟩
      rintro ⟨j, hj, q⟩; exact ⟨j, by omega, q⟩
theorem avail_end {t : T} (h : Shape t) : (avail t ((t.n - 1) / 2)).Perm [t.n - 1] := by
  have odd := h.odd
  refine (List.perm_ext_iff_of_nodup filter_nodup (by simp)).mpr fun x => ?_
  rw [show (x ∈ List.filter _ _ ↔ _) from avail_mem (t := t) (i := (t.n - 1) / 2) (x := x), List.mem_singleton]
  constructor
  · rintro ⟨a, b, c⟩; clear c; omega
  · rintro rfl
    refine ⟨by omega, by omega, ?_⟩
    by_cases e : t.k (t.n - 1) = -1
    · obtain ⟨j, ej, hj, hu⟩ := h.ons (t.n - 1) (by omega) e
      exact .inr ⟨j / 2, by omega, by rw [show 2 * (j / 2) = j by omega]; exact hu⟩
    · exact .inl e
def told (t : T) (i : Nat) : Int := ((List.range i).map fun j => t.c (2 * j) + t.c (2 * j + 1)).sum
theorem told_succ {t : T} {i : Nat} : told t (i + 1) = told t i + (t.c (2 * i) + t.c (2 * i + 1)) := by
  unfold told
  rw [List.range_succ, List.map_append, List.sum_append]
  simp
def pairSum (t : T) : Int := (((List.range t.n).filter fun x => decide (t.k x = -1)).map t.c).sum
theorem sum_perm {l l' : List Int} (h : l.Perm l') : l.sum = l'.sum := by
  induction h with
  | nil => rfl
  | cons x _ ih => simp [ih]
  | swap x y l => simp; omega
  | trans _ _ a b => exact a.trans b
theorem pairSum_told {t : T} {δ : Int} (h : Mid t (-1) δ) : pairSum t = told t ((t.n - 1) / 2) := by
  have odd := h.odd
  have sub : ∀ i j, i < (t.n - 1) / 2 → j < (t.n - 1) / 2 → (t.u (2 * i)).toNat = (t.u (2 * j)).toNat → i = j := fun i j hi hj e => by
    have ui := h.up (2 * i) (by omega) (by omega)
    have uj := h.up (2 * j) (by omega) (by omega)
    have := h.inj (2 * i) (2 * j) (by omega) (by omega) (by omega) (by omega) (by omega)
    omega
  have nd : ((List.range ((t.n - 1) / 2)).map fun j => (t.u (2 * j)).toNat).Nodup := by
    rw [List.nodup_iff_pairwise_ne, List.pairwise_map]
    refine (List.Pairwise.imp_of_mem ?_ (List.nodup_range (n := (t.n - 1) / 2)))
    intro a b ha hb ne e
    exact ne (sub a b (List.mem_range.mp ha) (List.mem_range.mp hb) e)
  have p : ((List.range t.n).filter fun x => decide (t.k x = -1)).Perm ((List.range ((t.n - 1) / 2)).map fun j => (t.u (2 * j)).toNat) := by
    refine (List.perm_ext_iff_of_nodup filter_nodup nd).mpr fun x => ?_
    rw [List.mem_filter, List.mem_range, decide_eq_true_iff, List.mem_map]
    constructor
    · rintro ⟨a, b⟩
      obtain ⟨j, ej, hj, hu⟩ := h.ons x a b
      exact ⟨j / 2, List.mem_range.mpr (by omega), by rw [show 2 * (j / 2) = j by omega, hu]; simp⟩
    · rintro ⟨j, hj, rfl⟩
      have hj := List.mem_range.mp hj
      have u := h.up (2 * j) (by omega) (by omega)
      exact ⟨by omega, u.2.2⟩
  unfold pairSum told
  rw [sum_perm (p.map t.c), List.map_map]
  congr 1
  apply List.map_congr_left
  intro j hj
  have hj := List.mem_range.mp hj
  have sm := h.sums (2 * j) (by omega) (by omega)
  have u := (h.up (2 * j) (by omega) (by omega)).1
  rw [if_neg (by omega)] at sm
  show t.c (t.u (2 * j)).toNat = _
  omega
/-- the counts that wait -/
def av (t : T) (i : Nat) : List Int := (avail t i).map t.c
theorem av_now {t : T} {δ : Int} (h : Mid t (-1) δ) {i : Nat} (hi : 2 * i + 1 < t.n) : (av t i).Perm (t.c (2 * i) :: t.c (2 * i + 1) :: (rest t i).map t.c) := (avail_now h.toShape hi).map t.c
theorem av_next {t : T} {δ : Int} (h : Mid t (-1) δ) {i : Nat} (hi : 2 * i + 1 < t.n) : (av t (i + 1)).Perm ((t.c (2 * i) + t.c (2 * i + 1)) :: (rest t i).map t.c) := by
  have p := (avail_next h.toShape hi).map t.c
  have sm := h.sums (2 * i) (by omega) hi
  have u := (h.up (2 * i) (by omega) hi).1
  rw [if_neg (by omega)] at sm
  have e : t.c (t.u (2 * i)).toNat = t.c (2 * i) + t.c (2 * i + 1) := by omega
  rw [List.map_cons, e] at p
  exact p
theorem rest_ge {t : T} {δ : Int} (h : Mid t (-1) δ) {i : Nat} {y : Int} (hy : y ∈ (rest t i).map t.c) : t.c (2 * i + 1) ≤ y := by
  obtain ⟨x, hx, rfl⟩ := List.mem_map.mp hy
  have := rest_mem.mp hx
  exact h.mono (by omega) this.1
/-- the least one of what waits is the next, the other one behind it -/
theorem take_one {t : T} {δ : Int} (h : Mid t (-1) δ) {i : Nat} (hi : 2 * i + 1 < t.n) {v : Int} {r : List Int} (p : (v :: r).Perm (av t i)) (hv : ∀ x ∈ r, v ≤ x) : v = t.c (2 * i) ∧ r.Perm (t.c (2 * i + 1) :: (rest t i).map t.c) := by
  have q := p.trans (av_now h hi)
  have e : v = t.c (2 * i) := by
    have a : t.c (2 * i) ≤ v := by
      have m := q.mem_iff.mp (List.mem_cons_self (a := v) (l := r))
      rcases List.mem_cons.mp m with m | m
      · omega
      · have s := h.srt (2 * i) hi
        rcases List.mem_cons.mp m with m | m
        · omega
        · have := rest_ge h m; omega
    have b : v ≤ t.c (2 * i) := by
      have m := q.mem_iff.mpr (List.mem_cons_self (a := t.c (2 * i)) (l := _))
      rcases List.mem_cons.mp m with m | m
      · omega
      · exact hv _ m
    omega
  subst e
  exact ⟨rfl, q.cons_inv⟩
theorem take_two {t : T} {δ : Int} (h : Mid t (-1) δ) {i : Nat} (hi : 2 * i + 1 < t.n) {v : Int} {r : List Int} (p : (v :: r).Perm (t.c (2 * i + 1) :: (rest t i).map t.c)) (hv : ∀ x ∈ r, v ≤ x) : v = t.c (2 * i + 1) ∧ r.Perm ((rest t i).map t.c) := by
  have e : v = t.c (2 * i + 1) := by
    have a : t.c (2 * i + 1) ≤ v := by
      have m := p.mem_iff.mp (List.mem_cons_self (a := v) (l := r))
      rcases List.mem_cons.mp m with m | m
      · omega
      · exact rest_ge h m
    have b : v ≤ t.c (2 * i + 1) := by
      have m := p.mem_iff.mpr (List.mem_cons_self (a := t.c (2 * i + 1)) (l := _))
      rcases List.mem_cons.mp m with m | m
      · omega
      · exact hv _ m
    omega
  subst e
  exact ⟨rfl, p.cons_inv⟩
theorem av_len {t : T} {δ : Int} (h : Mid t (-1) δ) : ∀ i, 2 * i < t.n → (av t i).length = (t.n + 1) / 2 - i := by
  have odd := h.odd
  have st : ∀ i, 2 * i + 1 < t.n → (av t (i + 1)).length + 1 = (av t i).length := fun i hi => by
    rw [(av_now h hi).length_eq, (av_next h hi).length_eq]; simp
  have en : (av t ((t.n - 1) / 2)).length = 1 := by unfold av; rw [List.length_map, (avail_end h.toShape).length_eq]; rfl
  have back : ∀ k i, i + k = (t.n - 1) / 2 → (av t i).length = k + 1 := fun k => by
    induction k with
    | zero => intro i e; rw [show i = (t.n - 1) / 2 by omega, en]
    | succ k ih =>
      intro i e
      have := st i (by omega)
      have := ih (i + 1) (by omega)
      omega
  intro i hi
  have := back ((t.n - 1) / 2 - i) i (by omega)
  omega
theorem av_zero {t : T} : av t 0 = ((List.range t.n).filter fun x => decide (t.k x ≠ -1)).map t.c := by
  unfold av avail
  congr 2
  funext x
  simp [isUp]
end LS
namespace LS
/-! ## a row is made of its counts -/
def push (t : T) (z v : Int) : T := ⟨t.n + 1, fun i => if i = t.n then z else t.k i, fun i => if i = t.n then v else t.c i, fun i => if i = t.n then -1 else t.u i⟩
def hang2 (t : T) (d : Nat) (q : Int) : T := { t with u := fun i => if i = 2 * d ∨ i = 2 * d + 1 then q else t.u i }
def psum (t : T) (x : Nat) : Int := t.c (2 * x) + t.c (2 * x + 1)
structure Mk (N : Nat) (t : T) (d : Nat) (ls : List (Int × Int)) : Prop where
  srt : ∀ i, i + 1 < t.n → t.c i ≤ t.c (i + 1)
  c1 : ∀ i, i < t.n → 1 ≤ t.c i
  dn : 2 * d ≤ t.n
  num : ls.length + t.n = N + d
  lsrt : ls.Pairwise fun p q => p.1 ≤ q.1
  lok : ∀ p ∈ ls, 1 ≤ p.1 ∧ p.1 ≤ 1000000 ∧ 0 ≤ p.2 ∧ p.2 ≤ 256
  lge : 0 < t.n → ∀ p ∈ ls, t.c (t.n - 1) ≤ p.1
  qge : 0 < t.n → ∀ x, d ≤ x → 2 * x + 1 < t.n → t.c (t.n - 1) ≤ psum t x
  tk : ∀ x, x < d → (2 * x + 1 : Int) < t.u (2 * x) ∧ t.u (2 * x) < t.n ∧ t.k (t.u (2 * x)).toNat = -1 ∧ t.u (2 * x + 1) = t.u (2 * x) ∧ t.c (t.u (2 * x)).toNat = psum t x
  mono : ∀ x y, x < y → y < d → t.u (2 * x) < t.u (2 * y)
  fr : ∀ i, 2 * d ≤ i → i < t.n → t.u i = -1
  ons : ∀ q, q < t.n → t.k q = -1 → ∃ x, x < d ∧ t.u (2 * x) = q
  kd : ∀ i, i < t.n → -1 ≤ t.k i ∧ t.k i ≤ 256
  top : ∀ i, i < t.n → 0 ≤ t.k i → t.c i ≤ 1000000
  dist : ∀ i j, i < t.n → j < t.n → 0 ≤ t.k i → t.k i = t.k j → i = j
  ldist : ls.Pairwise fun p q => p.2 ≠ q.2
  apart : ∀ i, i < t.n → ∀ p ∈ ls, t.k i ≠ p.2
  esc : (1, 256) ∈ ls ∨ Has t 256 1
theorem Mk.up {N d : Nat} {t : T} {ls : List (Int × Int)} (m : Mk N t d ls) {i j : Nat} (h : i ≤ j) (hj : j < t.n) : t.c i ≤ t.c j := mono_of m.srt j i h hj
theorem Mk.psums {N d : Nat} {t : T} {ls : List (Int × Int)} (m : Mk N t d ls) {x y : Nat} (h : x ≤ y) (hj : 2 * y + 1 < t.n) : psum t x ≤ psum t y := by
  have a := m.up (i := 2 * x) (j := 2 * y) (by omega) (by omega)
  have b := m.up (i := 2 * x + 1) (j := 2 * y + 1) (by omega) (by omega)
  unfold psum; omega
theorem push_k {t : T} {z v : Int} {i : Nat} (h : i ≠ t.n) : (push t z v).k i = t.k i := if_neg h
theorem push_c {t : T} {z v : Int} {i : Nat} (h : i ≠ t.n) : (push t z v).c i = t.c i := if_neg h
theorem push_u {t : T} {z v : Int} {i : Nat} (h : i ≠ t.n) : (push t z v).u i = t.u i := if_neg h
theorem push_kn {t : T} {z v : Int} : (push t z v).k t.n = z := if_pos rfl
theorem push_cn {t : T} {z v : Int} : (push t z v).c t.n = v := if_pos rfl
theorem push_un {t : T} {z v : Int} : (push t z v).u t.n = -1 := if_pos rfl
theorem push_sum {t : T} {z v : Int} {x : Nat} (h : 2 * x + 1 < t.n) : psum (push t z v) x = psum t x := by
  unfold psum; rw [push_c (by omega), push_c (by omega)]
/-- what every push keeps -/
theorem push_common {N d : Nat} {t : T} {ls : List (Int × Int)} {v z : Int} (m : Mk N t d ls) (v1 : 1 ≤ v) (hv : 0 < t.n → t.c (t.n - 1) ≤ v) (hq : 2 * d + 1 < t.n → v ≤ psum t d) :
    (∀ i, i + 1 < t.n + 1 → (push t z v).c i ≤ (push t z v).c (i + 1)) ∧ (∀ i, i < t.n + 1 → 1 ≤ (push t z v).c i) ∧ (∀ x, d ≤ x → 2 * x + 1 < t.n + 1 → v ≤ psum (push t z v) x) := by
  refine ⟨fun i hi => ?_, fun i hi => ?_, fun x hx h2 => ?_⟩
  · by_cases e : i + 1 = t.n
    · rw [push_c (by omega), e, push_cn]
      have := hv (by omega)
      rwa [show t.n - 1 = i by omega] at this
    · rw [push_c (by omega), push_c (by omega)]; exact m.srt i (by omega)
  · by_cases e : i = t.n
    · rw [e, push_cn]; exact v1
    · rw [push_c e]; exact m.c1 i (by omega)
  · by_cases e : 2 * x + 1 = t.n
    · unfold psum
      rw [e, push_cn, push_c (by omega)]
      have := m.c1 (2 * x) (by omega); omega
    · rw [push_sum (by omega)]
      have := hq (by omega)
      have := m.psums hx (by omega)
      omega
theorem Mk.leaf {N d : Nat} {t : T} {ls : List (Int × Int)} {v z : Int} (m : Mk N t d ((v, z) :: ls)) (hq : 2 * d + 1 < t.n → v ≤ psum t d) : Mk N (push t z v) d ls := by
  obtain ⟨o1, o2, o3, o4⟩ := m.lok _ (List.mem_cons_self ..)
  simp only at o1 o2 o3 o4
  obtain ⟨a, b, c⟩ := push_common (z := z) m o1 (fun h => m.lge h _ (List.mem_cons_self ..)) hq
  have ls1 := List.pairwise_cons.mp m.lsrt
  have ls2 := List.pairwise_cons.mp m.ldist
  have dn := m.dn
  refine ⟨a, b, by show 2 * d ≤ t.n + 1; omega, ?_, ls1.2, fun p hp => m.lok p (List.mem_cons_of_mem _ hp), fun _ p hp => ?_, fun _ x hx h2 => ?_, fun x hx => ?_, fun x y hx hy => ?_, fun i hi h2 => ?_, fun q hq hk => ?_, fun i hi => ?_, fun i hi hk => ?_, fun i j hi hj h0 e => ?_, ls2.2, fun i hi p hp => ?_, ?_⟩
  · have := m.num
    rw [List.length_cons] at this
    show ls.length + (t.n + 1) = N + d
    omega
  · show (push t z v).c (t.n + 1 - 1) ≤ p.1
    rw [show t.n + 1 - 1 = t.n by omega, push_cn]
    exact ls1.1 p hp
  · show (push t z v).c (t.n + 1 - 1) ≤ _
    rw [show t.n + 1 - 1 = t.n by omega, push_cn]
    exact c x hx h2
  · obtain ⟨t1, t2, t3, t4, t5⟩ := m.tk x hx
    rw [push_u (by omega), push_u (by omega), push_k (by omega), push_c (by omega), push_sum (by omega)]
    exact ⟨t1, by show _ < ((t.n + 1 : Nat) : Int); omega, t3, t4, t5⟩
  · rw [push_u (by omega), push_u (by omega)]; exact m.mono x y hx hy
  · by_cases e : i = t.n
    · rw [e, push_un]
    · rw [push_u e]; exact m.fr i hi (by have : i < t.n + 1 := h2; omega)
  · have hq : q < t.n + 1 := hq
    by_cases e : q = t.n
    · rw [e, push_kn] at hk; omega
    · rw [push_k e] at hk
      obtain ⟨x, hx, hu⟩ := m.ons q (by omega) hk
      exact ⟨x, hx, by rw [push_u (by omega)]; exact hu⟩
  · have hi : i < t.n + 1 := hi
    by_cases e : i = t.n
    · rw [e, push_kn]; omega
    · rw [push_k e]; exact m.kd i (by omega)
  · have hi : i < t.n + 1 := hi
    by_cases e : i = t.n
    · rw [e, push_cn]; exact o2
    · rw [push_k e] at hk; rw [push_c e]; exact m.top i (by omega) hk
  · have hi : i < t.n + 1 := hi
    have hj : j < t.n + 1 := hj
    by_cases ei : i = t.n
    · by_cases ej : j = t.n
      · omega
      · rw [ei, push_kn, push_k ej] at e
        exact absurd e.symm (m.apart j (by omega) _ (List.mem_cons_self ..))
    · by_cases ej : j = t.n
      · rw [ej, push_kn, push_k ei] at e
        exact absurd e (m.apart i (by omega) _ (List.mem_cons_self ..))
      · rw [push_k ei, push_k ej] at e
        rw [push_k ei] at h0
        exact m.dist i j (by omega) (by omega) h0 e
  · have hi : i < t.n + 1 := hi
    by_cases e : i = t.n
    · rw [e, push_kn]; exact ls2.1 p hp
    · rw [push_k e]; exact m.apart i (by omega) p (List.mem_cons_of_mem _ hp)
  · rcases m.esc with h | ⟨i, hi, h1, h2⟩
    · rcases List.mem_cons.mp h with h | h
      · injection h with h1 h2
        exact .inr ⟨t.n, by show t.n < t.n + 1; omega, by rw [push_kn]; exact h2.symm, by rw [push_cn]; exact h1.symm⟩
      · exact .inl h
    · exact .inr ⟨i, by show i < t.n + 1; omega, by rw [push_k (by omega)]; exact h1, by rw [push_c (by omega)]; exact h2⟩
theorem hang2_u {t : T} {d : Nat} {q : Int} {i : Nat} (h : i ≠ 2 * d) (h2 : i ≠ 2 * d + 1) : (hang2 t d q).u i = t.u i := if_neg (by omega)
theorem Mk.pair {N d : Nat} {t : T} {ls : List (Int × Int)} (m : Mk N t d ls) (h2 : 2 * d + 1 < t.n) (hl : ∀ p ∈ ls, psum t d ≤ p.1) : Mk N (hang2 (push t (-1) (psum t d)) d t.n) (d + 1) ls := by
  have v1 : 1 ≤ psum t d := by
    have := m.c1 (2 * d) (by omega)
    have := m.c1 (2 * d + 1) (by omega)
    unfold psum; omega
  obtain ⟨a, b, c⟩ := push_common (z := -1) m v1 (fun h => m.qge h d (Nat.le_refl _) h2) (fun _ => Int.le_refl _)
  have dn := m.dn
  have hu : ∀ x, x < d → (hang2 (push t (-1) (psum t d)) d t.n).u (2 * x) = t.u (2 * x) := fun x hx => by rw [hang2_u (by omega) (by omega), push_u (by omega)]
  have hd0 : (hang2 (push t (-1) (psum t d)) d t.n).u (2 * d) = t.n := if_pos (.inl rfl)
  have hd1 : (hang2 (push t (-1) (psum t d)) d t.n).u (2 * d + 1) = t.n := if_pos (.inr rfl)
  refine ⟨a, b, by show 2 * (d + 1) ≤ t.n + 1; omega, ?_, m.lsrt, m.lok, fun _ p hp => ?_, fun _ x hx h2 => ?_, fun x hx => ?_, fun x y hx hy => ?_, fun i hi h2 => ?_, fun q hq hk => ?_, fun i hi => ?_, fun i hi hk => ?_, fun i j hi hj h0 e => ?_, m.ldist, fun i hi p hp => ?_, ?_⟩
  · have := m.num
    show ls.length + (t.n + 1) = N + (d + 1)
    omega
  · show (push t (-1) (psum t d)).c (t.n + 1 - 1) ≤ p.1
    rw [show t.n + 1 - 1 = t.n by omega, push_cn]
    exact hl p hp
  · show (push t (-1) (psum t d)).c (t.n + 1 - 1) ≤ psum (push t (-1) (psum t d)) x
    rw [show t.n + 1 - 1 = t.n by omega, push_cn]
    exact c x (by omega) h2
  · by_cases e : x = d
    · subst e
      rw [hd0, hd1]
      refine ⟨by omega, by show _ < ((t.n + 1 : Nat) : Int); omega, ?_, rfl, ?_⟩
      · show (push t (-1) (psum t x)).k (((t.n : Nat) : Int)).toNat = -1
        rw [Int.toNat_natCast, push_kn]
      · show (push t (-1) (psum t x)).c (((t.n : Nat) : Int)).toNat = psum (push t (-1) (psum t x)) x
        rw [Int.toNat_natCast, push_cn, push_sum h2]
    · obtain ⟨t1, t2, t3, t4, t5⟩ := m.tk x (by omega)
      rw [hu x (by omega), hang2_u (by omega) (by omega), push_u (by omega)]
      refine ⟨t1, by show _ < ((t.n + 1 : Nat) : Int); omega, ?_, t4, ?_⟩
      · show (push t (-1) (psum t d)).k _ = -1
        rw [push_k (by omega)]; exact t3
      · show (push t (-1) (psum t d)).c _ = psum (push t (-1) (psum t d)) x
        rw [push_c (by omega), push_sum (by omega)]; exact t5
  · rw [hu x (by omega)]
    by_cases e : y = d
    · subst e; rw [hd0]; exact (m.tk x (by omega)).2.1
    · rw [hu y (by omega)]; exact m.mono x y hx (by omega)
  · rw [hang2_u (by omega) (by omega)]
    by_cases e : i = t.n
    · rw [e, push_un]
    · rw [push_u e]; exact m.fr i (by omega) (by have : i < t.n + 1 := h2; omega)
  · have hq : q < t.n + 1 := hq
    have hk : (push t (-1) (psum t d)).k q = -1 := hk
    by_cases e : q = t.n
    · exact ⟨d, by omega, by rw [hd0, e]⟩
    · rw [push_k e] at hk
      obtain ⟨x, hx, hu2⟩ := m.ons q (by omega) hk
      exact ⟨x, by omega, by rw [hu x hx]; exact hu2⟩
  · have hi : i < t.n + 1 := hi
    show -1 ≤ (push t (-1) (psum t d)).k i ∧ (push t (-1) (psum t d)).k i ≤ 256
    by_cases e : i = t.n
    · rw [e, push_kn]; omega
    · rw [push_k e]; exact m.kd i (by omega)
  · have hi : i < t.n + 1 := hi
    have hk : 0 ≤ (push t (-1) (psum t d)).k i := hk
    show (push t (-1) (psum t d)).c i ≤ _
    by_cases e : i = t.n
    · rw [e, push_kn] at hk; omega
    · rw [push_k e] at hk; rw [push_c e]; exact m.top i (by omega) hk
  · have hi : i < t.n + 1 := hi
    have hj : j < t.n + 1 := hj
    have h0 : 0 ≤ (push t (-1) (psum t d)).k i := h0
    have e : (push t (-1) (psum t d)).k i = (push t (-1) (psum t d)).k j := e
    by_cases ei : i = t.n
    · rw [ei, push_kn] at h0; omega
    · by_cases ej : j = t.n
      · rw [ej, push_kn] at e; omega
      · rw [push_k ei, push_k ej] at e
        rw [push_k ei] at h0
        exact m.dist i j (by omega) (by omega) h0 e
  · have hi : i < t.n + 1 := hi
    show (push t (-1) (psum t d)).k i ≠ p.2
    by_cases e : i = t.n
    · rw [e, push_kn]; have := m.lok p hp; omega
    · rw [push_k e]; exact m.apart i (by omega) p hp
  · rcases m.esc with h | ⟨i, hi, h1, h2⟩
    · exact .inl h
    · exact .inr ⟨i, by show i < t.n + 1; omega, by show (push t (-1) (psum t d)).k i = _; rw [push_k (by omega)]; exact h1, by show (push t (-1) (psum t d)).c i = _; rw [push_c (by omega)]; exact h2⟩
theorem Mk.right {N d : Nat} {t : T} {ls : List (Int × Int)} (m : Mk N t d ls) (h1 : 1 ≤ N) (hn : t.n = 2 * N - 1) : Right t := by
  have num := m.num
  have dn := m.dn
  have hd : d = N - 1 := by omega
  have hl : ls = [] := List.eq_nil_of_length_eq_zero (by omega)
  subst hl
  have two : ∀ i, i % 2 = 0 → i + 1 < t.n → ∃ x, x < d ∧ i = 2 * x := fun i e h => ⟨i / 2, by omega, by omega⟩
  have m1 : Mid t (-1) 1 := by
    refine ⟨⟨by omega, m.fr _ (by omega) (by omega), fun i e h => ?_, fun i e h => ?_, fun i j ei ej hi hj e => ?_, fun q hq hk => ?_, m.kd, m.dist⟩, fun i e h => ?_, m.srt, fun i hi => by have := m.c1 i hi; omega, by omega⟩
    · obtain ⟨x, hx, rfl⟩ := two i e h
      exact (m.tk x hx).2.2.2.1
    · obtain ⟨x, hx, rfl⟩ := two i e h
      obtain ⟨a, b, c, _⟩ := m.tk x hx
      exact ⟨by omega, b, c⟩
    · obtain ⟨x, hx, rfl⟩ := two i ei hi
      obtain ⟨y, hy, rfl⟩ := two j ej hj
      rcases Nat.lt_trichotomy x y with g | g | g
      · have := m.mono x y g hy; omega
      · rw [g]
      · have := m.mono y x g hx; omega
    · obtain ⟨x, hx, hu⟩ := m.ons q hq hk
      exact ⟨2 * x, by omega, by omega, hu⟩
    · obtain ⟨x, hx, rfl⟩ := two i e h
      obtain ⟨a, b, c, _, f⟩ := m.tk x hx
      rw [if_neg (by omega), f]
      unfold psum; omega
  refine ⟨m1, m.c1, m.top, m.esc.resolve_left (by simp)⟩
end LS
namespace LS
open PySem PySem.Spec PyProof.Rows L2 DL

/-! ## the drawing cell -/
def Src (cs : Cs) (a : Addr) : Prop := ∃ x y : Int, 0 ≤ x ∧ 0 ≤ y ∧ y < 2147483647 ∧ cs a = some (.lst [.int x, .int y])
def Only (a : Addr) (cs cs' : Cs) : Prop := ∀ b, b ≠ a → cs' b = cs b
def P__law_take (cl : Str → Addr) : DSp := fun ds cs Φ _ => ∃ a top, ds = [.cell a, .int top] ∧ Src cs a ∧ 0 < top ∧ top < 1073741824 ∧ ∀ cs' g, Src cs' a → Only a cs cs' → 0 ≤ g → g < top → Φ (.int g) cs'
def P__law_pool (cl : Str → Addr) : DSp := fun ds cs Φ _ => ∃ (ns : List Int) (k : Int), ds = [.rl (ns.map D.int), .int k] ∧ 0 ≤ k ∧ k < 1000 ∧ ns.length ≤ 63 ∧ ∀ x y : Int, 0 ≤ x → 0 ≤ y → y < 2147483647 → ∀ p, cs p = none → Φ (.cell p) (setc cs p (.lst [.int x, .int y]))

/-! ## rows as data -/
def tab (n : Nat) (f : Nat → Int) : List D := (List.range n).map fun i => D.int (f i)
def eJ (t : T) (i : Nat) : D := .tup [.int (t.k i), .int (t.c i), .int (t.u i)]
def eRow (t : T) : D := .tup ((List.range t.n).map (eJ t))
/-- the object of a row: its lists' cells -/
structure JA where
  k : Addr
  s : Addr
  u : Addr
  d : Addr
  p : Addr
def jf (q : JA) : List (Str × D) := [("kinds", .cell q.k), ("sums", .cell q.s), ("ups", .cell q.u), ("downs", .cell q.d), ("places", .cell q.p)]
structure JAt (cl : Str → Addr) (cs : Cs) (a : Addr) (q : JA) (n : Nat) (k c u d : Nat → Int) (pl : Int → Option Int) : Prop where
  o : cs a = some (.obj (cl "Joints") (jf q))
  hk : cs q.k = some (.lst (tab n k))
  hs : cs q.s = some (.lst (tab n c))
  hu : cs q.u = some (.lst (tab n u))
  hd : cs q.d = some (.lst (tab n d))
  hp : ∃ kvs, cs q.p = some (.dict kvs) ∧ kvs.length ≤ n ∧ ∀ z, vK kvs (.inl z) = (pl z).map D.int
  nd : [a, q.k, q.s, q.u, q.d, q.p].Nodup
  n1 : n ≤ 1000
def Pl (n : Nat) (k : Nat → Int) (pl : Int → Option Int) : Prop := ∀ z i, pl z = some i ↔ 0 ≤ z ∧ ∃ j : Nat, i = j ∧ j < n ∧ k j = z
def Dn (t : T) (d : Nat → Int) : Prop := ∀ i, i % 2 = 0 → i + 1 < t.n → d (t.u i).toNat = i
def JT (cl : Str → Addr) (cs : Cs) (a : Addr) (q : JA) (t : T) : Prop := ∃ d pl, JAt cl cs a q t.n t.k t.c t.u d pl ∧ Pl t.n t.k pl ∧ Dn t d
/-- only the object's lists change -/
def KpJ (q : JA) (cs cs' : Cs) : Prop := ∀ b, b ≠ q.k → b ≠ q.s → b ≠ q.u → b ≠ q.d → b ≠ q.p → cs' b = cs b
def Srt (t : T) : Prop := ∀ i, i + 1 < t.n → t.c i ≤ t.c (i + 1)
/-- all cells that stood stand, but a -/
def Kp (a : Addr) (cs cs' : Cs) : Prop := ∀ b c, b ≠ a → cs b = some c → cs' b = some c

/-! ## the judge of rows, letters -/
def P_is_whole (cl : Str → Addr) : DSp := fun ds cs Φ _ => ∃ i : Int, ds = [.int i] ∧ Φ (.bl true) cs
def P_is_joint (cl : Str → Addr) : DSp := fun ds cs Φ _ => ∃ t i, ds = [eJ t i] ∧ -1 ≤ t.k i ∧ t.k i ≤ 256 ∧ Φ (.bl true) cs
def P_leaves_fit (cl : Str → Addr) : DSp := fun ds cs Φ _ => ∃ t, ds = [eRow t] ∧ Right t ∧ t.n ≤ 513 ∧ Φ (.bl true) cs
def P_order_fits (cl : Str → Addr) : DSp := fun ds cs Φ _ => ∃ t, ds = [eRow t] ∧ Right t ∧ t.n ≤ 513 ∧ Φ (.bl true) cs
def Ext (cs cs' : Cs) : Prop := ∀ b c, cs b = some c → cs' b = some c
def P_ups_fit (cl : Str → Addr) : DSp := fun ds cs Φ _ => ∃ t, ds = [eRow t] ∧ Right t ∧ t.n ≤ 513 ∧ ∀ cs', Ext cs cs' → Φ (.bl true) cs'
def P_row_right (cl : Str → Addr) : DSp := fun ds cs Φ _ => ∃ t, ds = [eRow t] ∧ Right t ∧ t.n ≤ 513 ∧ ∀ cs', Ext cs cs' → Φ (.bl true) cs'
/-! ## deeds -/
def KpQ (a : Addr) (q : JA) (cs cs' : Cs) : Prop := ∀ b c, b ≠ a → b ≠ q.k → b ≠ q.s → b ≠ q.u → b ≠ q.d → b ≠ q.p → cs b = some c → cs' b = some c
def Counted (t : T) (z : Int) (t' : T) : Prop := (∃ i : Nat, i < t.n ∧ t.k i = z ∧ Steps 1 t i t') ∨ ((∀ i, i < t.n → t.k i ≠ z) ∧ Steps 1 (entT t z) 0 t')
def Uncounted (t : T) (z : Int) (t' : T) : Prop := ∃ i : Nat, i < t.n ∧ t.k i = z ∧ ((t.c i ≠ 1 ∧ Steps (-1) t i t') ∨ (t.c i = 1 ∧ ∃ t1, Steps (-1) t i t1 ∧ t' = leaT t1))

/-! ## counts, sums -/
def eC (l : List (Int × Int)) : D := .tup (l.map fun p => D.tup [.int p.1, .int p.2])
structure CLo (l : List (Int × Int)) : Prop where
  asc : l.Pairwise fun p q => p.1 < q.1
  ok : ∀ p ∈ l, 0 ≤ p.1 ∧ p.1 < 256 ∧ 1 ≤ p.2 ∧ p.2 ≤ 1000000
  len : l.length ≤ 1000
/-- the counts of a row's letters, ascending -/
structure CL (t : T) (l : List (Int × Int)) : Prop where
  asc : l.Pairwise fun p q => p.1 < q.1
  mem : ∀ z v, (z, v) ∈ l ↔ 0 ≤ z ∧ z ≠ 256 ∧ Has t z v
def P_take_least (cl : Str → Addr) : DSp := fun ds cs Φ _ => ∃ a b, ∃ ls ps : List Int, ds = [.cell a, .cell b] ∧ a ≠ b ∧ cs a = some (.lst (ls.map D.int)) ∧ cs b = some (.lst (ps.map D.int)) ∧ ls.Pairwise (· ≥ ·) ∧ ps.Pairwise (· ≤ ·) ∧ 0 < ls.length + ps.length ∧ ls.length + ps.length ≤ 10000 ∧
  ∀ (v : Int) (ls' ps' : List Int), (v :: (ls' ++ ps')).Perm (ls ++ ps) → (∀ x ∈ ls' ++ ps', v ≤ x) → ls'.Pairwise (· ≥ ·) → ps'.Pairwise (· ≤ ·) → (∀ x ∈ ps', x ∈ ps) → Φ (.int v) (setc (setc cs a (.lst (ls'.map D.int))) b (.lst (ps'.map D.int)))
def P_least_of (cl : Str → Addr) : DSp := fun ds cs Φ _ => ∃ t, ∃ ns : List Int, ds = [.lst (ns.map D.int)] ∧ Mid t (-1) 1 ∧ t.n ≤ 1000 ∧ ns.Perm (av t 0) ∧ ∀ cs', Ext cs cs' → Φ (.int (pairSum t)) cs'
def P_counts_in (cl : Str → Addr) : DSp := fun ds cs Φ _ => ∃ t, ds = [eRow t] ∧ Right t ∧ t.n ≤ 513 ∧ ∀ l cs', CL t l → Ext cs cs' → Φ (eC l) cs'
def P_sum_of (cl : Str → Addr) : DSp := fun ds cs Φ _ => ∃ t, ds = [eRow t] ∧ Right t ∧ t.n ≤ 513 ∧ ∀ cs', Ext cs cs' → Φ (.int (pairSum t)) cs'
def P__law_least (cl : Str → Addr) : DSp := fun ds cs Φ _ => ∃ (t : T) (l : List (Int × Int)), ds = [eC l] ∧ l.length ≤ 1000 ∧ Mid t (-1) 1 ∧ t.n ≤ 1000 ∧ (1 :: l.map Prod.snd).Perm (av t 0) ∧ Φ (.int (pairSum t)) cs

/-! ## the law's own defs -/
def lJ (t : T) (i : Nat) : D := .lst [.int (t.k i), .int (t.c i), .int (t.u i)]
def lR (t : T) : D := .lst ((List.range t.n).map (lJ t))
def P__law_one (cl : Str → Addr) : DSp := fun ds cs Φ _ => ∃ a, ∃ xs : List D, ds = [.cell a, .lst xs] ∧ Src cs a ∧ 0 < xs.length ∧ xs.length < 1000 ∧ ∀ d, d ∈ xs → ∀ cs', Src cs' a → Only a cs cs' → Φ d cs'
def P__law_alphabet (cl : Str → Addr) : DSp := fun ds cs Φ _ => ∃ a, ∃ most : Int, ds = [.cell a, .int most] ∧ Src cs a ∧ 1 ≤ most ∧ most ≤ 100 ∧ ∀ ls : List Int, ls.Nodup → (∀ z ∈ ls, 0 ≤ z ∧ z < 256) → 1 ≤ ls.length → ls.length ≤ most.toNat → ∀ cs', Src cs' a → Only a cs cs' → Φ (.lst (ls.map D.int)) cs'
def P__law_letters (cl : Str → Addr) : DSp := fun ds cs Φ _ => ∃ a, ∃ most : Int, ds = [.cell a, .int most] ∧ Src cs a ∧ 0 ≤ most ∧ most ≤ 100 ∧ ∀ ls : List Int, (∀ z ∈ ls, 0 ≤ z ∧ z < 256) → ls.length ≤ most.toNat → ∀ cs', Src cs' a → Kp a cs cs' → Φ (.tup (ls.map D.int)) cs'
/-- a new list of new lists -/
structure NR (cs cs' : Cs) (p : Addr) (qa : Nat → Addr) (t : T) : Prop where
  hp : cs' p = some (.lst ((List.range t.n).map fun i => D.cell (qa i)))
  hq : ∀ i, i < t.n → cs' (qa i) = some (.lst [.int (t.k i), .int (t.c i), .int (t.u i)])
  fp : cs p = none
  fq : ∀ i, i < t.n → cs (qa i) = none
  inj : ∀ i j, i < t.n → j < t.n → qa i = qa j → i = j
  ne : ∀ i, i < t.n → qa i ≠ p
  others : ∀ b, b ≠ p → (∀ i, i < t.n → b ≠ qa i) → cs' b = cs b
/-- the model of a row's letters -/
def eM (ml : List (Int × Int)) : Ct := .dict (ml.map fun p => (Sum.inl p.1, D.int p.2))
structure Mdl (t : T) (ml : List (Int × Int)) : Prop where
  nd : ml.Pairwise fun p q => p.1 ≠ q.1
  ok : ∀ p ∈ ml, 0 ≤ p.1 ∧ p.1 < 256 ∧ 0 ≤ p.2 ∧ p.2 ≤ 1000000
  fit : ∀ z v, 0 < v → ((z, v) ∈ ml ↔ 0 ≤ z ∧ z < 256 ∧ Has t z v)

/-! ## rows made -/
def T0 : T := ⟨0, fun _ => 0, fun _ => 0, fun _ => 0⟩
def sw (p : Int × Int) : Int × Int := (p.2, p.1)
abbrev MkS := T × Nat × List (Int × Int)
/-- one joint more is placed: the next pair, or the next leaf if its count is no greater -/
def stp : MkS → MkS
  | (t, d, []) => (hang2 (push t (-1) (psum t d)) d t.n, d + 1, [])
  | (t, d, (v, z) :: ls) => if 2 * d + 1 < t.n ∧ psum t d < v then (hang2 (push t (-1) (psum t d)) d t.n, d + 1, (v, z) :: ls) else (push t z v, d, ls)
def itr : Nat → MkS → MkS
  | 0, s => s
  | n + 1, s => stp (itr n s)
def mkT (ls : List (Int × Int)) : T := (itr (2 * ls.length - 1) (T0, 0, ls)).1
def SortedOf (l ls : List (Int × Int)) : Prop := ls.Perm (l.map sw ++ [(1, 256)]) ∧ ls.Pairwise fun p q => p.1 * 1048576 + p.2 ≤ q.1 * 1048576 + q.2
def P__law_made (cl : Str → Addr) : DSp := fun ds cs Φ _ => ∃ l : List (Int × Int), ds = [eC l] ∧ CLo l ∧ l.length ≤ 256 ∧ ∀ ls, SortedOf l ls → Right (mkT ls) → (mkT ls).n = 2 * l.length + 1 → ∀ cs', Ext cs cs' → Φ (lR (mkT ls)) cs'
/-- the first fault of some counts -/
def fault : Int → Nat → List (Int × Int) → Option (Str × Int)
  | _, _, [] => none
  | b, i, (z, v) :: r => if ¬ (0 ≤ z ∧ z < 256) then some ("BadLetter", z) else if z ≤ b ∨ ¬ (1 ≤ v ∧ v ≤ 1000000) then some ("BadCount", (i : Int)) else fault z (i + 1) r
def P_want_letter (cl : Str → Addr) : DSp := fun ds cs Φ Ψ => ∃ z : Int, ds = [.int z] ∧ (0 ≤ z → z < 256 → Φ .non cs) ∧ (¬ (0 ≤ z ∧ z < 256) → Ψ ⟨cl "BadLetter", .int z⟩ cs)
def P_want_counts (cl : Str → Addr) : DSp := fun ds cs Φ Ψ => ∃ l, ds = [eC l] ∧ l.length ≤ 1000 ∧ (fault (-1) 0 l = none → Φ .non cs) ∧ ∀ C v, fault (-1) 0 l = some (C, v) → Ψ ⟨cl C, .int v⟩ cs
/-- what is told of counts: f the row, g the fault -/
def Told (l : List (Int × Int)) (f : T → Prop) (g : Str → Int → Prop) : Prop :=
  (fault (-1) 0 l = none → ∀ ls, SortedOf l ls → Right (mkT ls) → (mkT ls).n = 2 * l.length + 1 → f (mkT ls)) ∧ ∀ C v, fault (-1) 0 l = some (C, v) → g C v
def P_made_row (cl : Str → Addr) : DSp := fun ds cs Φ Ψ => ∃ l, ds = [eC l] ∧ l.length ≤ 256 ∧ ∀ cs', Ext cs cs' → Told l (fun t => Φ (eRow t) cs') (fun C v => Ψ ⟨cl C, .int v⟩ cs')
def P__law_told (cl : Str → Addr) : DSp := fun ds cs Φ _ => ∃ l, ds = [eC l] ∧ l.length ≤ 256 ∧ ∀ cs', Ext cs cs' → Told l (fun t => Φ (.tup [.str "none", eRow t]) cs') (fun C v => Φ (.tup [.str (if C = "BadLetter" then "letter" else "count"), .int v]) cs')
/-! the object of a making -/
def Qt (t : T) (x : Nat) : D := .tup [.int (psum t x), .tup [.int (2 * (x : Int)), .int (2 * (x : Int) + 1)]]
def Qp (t : T) (d e : Nat) : List D := (List.range (e - d)).map fun x => Qt t (x + d)
def eLs (ls : List (Int × Int)) : List D := ls.map fun p => D.tup [.int p.1, .int p.2]
structure MA where
  l : Addr
  p : Addr
  r : Addr
  q : Nat → Addr
def mf (m : MA) : List (Str × D) := [("leaves", .cell m.l), ("pairs", .cell m.p), ("row", .cell m.r)]
structure MkO (cl : Str → Addr) (cs0 cs : Cs) (a : Addr) (m : MA) (s : MkS) (e : Nat) : Prop where
  o : cs a = some (.obj (cl "Making") (mf m))
  hl : cs m.l = some (.lst (eLs s.2.2))
  hp : cs m.p = some (.lst (Qp s.1 s.2.1 e))
  hr : cs m.r = some (.lst ((List.range s.1.n).map fun i => D.cell (m.q i)))
  hq : ∀ i, i < s.1.n → cs (m.q i) = some (.lst [.int (s.1.k i), .int (s.1.c i), .int (s.1.u i)])
  nd : [a, m.l, m.p, m.r].Nodup
  nq : ∀ i, i < s.1.n → m.q i ≠ a ∧ m.q i ≠ m.l ∧ m.q i ≠ m.p ∧ m.q i ≠ m.r
  inj : ∀ i j, i < s.1.n → j < s.1.n → m.q i = m.q j → i = j
  ext : Ext cs0 cs
  fr : cs0 a = none ∧ cs0 m.l = none ∧ cs0 m.p = none ∧ cs0 m.r = none ∧ ∀ i, i < s.1.n → cs0 (m.q i) = none
  n1 : s.1.n ≤ 1000 ∧ s.2.2.length ≤ 1000 ∧ e ≤ 1000
def P_Making___init__ (cl : Str → Addr) : DSp := fun ds cs Φ _ => ∃ a la ls cs0, ds = [.cell a, .cell la] ∧ cs a = some (.obj (cl "Making") []) ∧ cs la = some (.lst (eLs ls)) ∧ a ≠ la ∧ ls.length ≤ 1000 ∧ Ext cs0 cs ∧ cs0 a = none ∧ cs0 la = none ∧ ∀ cs' m, MkO cl cs0 cs' a m (T0, 0, ls) 0 → Φ .non cs'
def P_Making_many (cl : Str → Addr) : DSp := fun ds cs Φ _ => ∃ cs0 a m s e, ds = [.cell a] ∧ MkO cl cs0 cs a m s e ∧ Φ (.int ((s.2.2.length : Int) + ((e - s.2.1 : Nat) : Int))) cs
def P_Making_place_least (cl : Str → Addr) : DSp := fun ds cs Φ _ => ∃ cs0 a m s e, ds = [.cell a] ∧ MkO cl cs0 cs a m s e ∧ e = s.1.n / 2 ∧ (s.2.1 < e ∨ s.2.2 ≠ []) ∧ s.1.n < 1000 ∧ ∀ cs' m', MkO cl cs0 cs' a m' (stp s) e → Φ (.int (s.1.n : Int)) cs'
def P_Making_join (cl : Str → Addr) : DSp := fun ds cs Φ _ => ∃ cs0 a m s e, ds = [.cell a] ∧ MkO cl cs0 cs a m s e ∧ s.1.n = 2 * e ∧ s.2.1 ≤ e ∧ 1 < s.2.2.length + (e - s.2.1) ∧ s.1.n < 900 ∧ ∀ cs' m', MkO cl cs0 cs' a m' (stp (stp s)) (e + 1) → Φ .non cs'
/-! the law's defs -/
def P__law_counts (cl : Str → Addr) : DSp := fun ds cs Φ _ => ∃ a, ∃ most : Int, ds = [.cell a, .int most] ∧ Src cs a ∧ 1 ≤ most ∧ most ≤ 40 ∧ ∀ l, CLo l → l.length ≤ most.toNat → ∀ cs', Src cs' a → Kp a cs cs' → Φ (eC l) cs'
def P__law_counted (cl : Str → Addr) : DSp := fun ds cs Φ _ => ∃ ls : List Int, ds = [.tup (ls.map D.int)] ∧ (∀ z ∈ ls, 0 ≤ z ∧ z < 256) ∧ ls.length ≤ 60 ∧ ∀ l, CLo l → l.length ≤ ls.length → Φ (eC l) cs
def P__law_tuple (cl : Str → Addr) : DSp := fun ds cs Φ _ => ∃ t : T, ds = [lR t] ∧ t.n ≤ 1000 ∧ Φ (eRow t) cs
def P_least_sum (cl : Str → Addr) : DSp := fun ds cs Φ _ => ∃ (t : T) (l : List (Int × Int)), ds = [eC l] ∧ CLo l ∧ Mid t (-1) 1 ∧ t.n ≤ 1000 ∧ (l.map Prod.snd ++ [1]).Perm (av t 0) ∧ ∀ cs', Ext cs cs' → Φ (.int (pairSum t)) cs'
def P_want_row (cl : Str → Addr) : DSp := fun ds cs Φ _ => ∃ t, ds = [eRow t] ∧ Right t ∧ t.n ≤ 513 ∧ ∀ cs', Ext cs cs' → Φ .non cs'
def P__law_made_right (cl : Str → Addr) : DSp := fun ds cs Φ _ => ∃ l, ds = [eC l] ∧ CLo l ∧ l.length ≤ 256 ∧ ∀ cs', Ext cs cs' → Φ (.bl true) cs'
def P__law_fault_right (cl : Str → Addr) : DSp := fun ds cs Φ _ => ∃ a l, ds = [.cell a, eC l] ∧ Src cs a ∧ CLo l ∧ 0 < l.length ∧ l.length ≤ 60 ∧ ∀ cs', Src cs' a → Φ (.bl true) cs'
def P__law_right (cl : Str → Addr) : DSp := fun ds cs Φ _ => ∃ a, ds = [.cell a] ∧ Src cs a ∧ ∀ cs', Φ (.bl true) cs'
def P_law (cl : Str → Addr) : DSp := fun ds cs Φ _ => ∃ ns : List Int, ds = [.rl (ns.map D.int)] ∧ ns.length ≤ 63 ∧ (cs = fun _ => none) ∧ ∀ cs', Φ (.bl true) cs'
structure EmD (em : Addr → Addr → Option Bool) (gd : Addr → Prop) (cl : Str → Addr) : Prop where
  ll : em (cl "BadLetter") (cl "BadLetter") = some true
  ct : em (cl "BadCount") (cl "BadLetter") = some false
  cc : em (cl "BadCount") (cl "BadCount") = some true
  gl : gd (cl "BadLetter")
  gc : gd (cl "BadCount")
end LS
namespace LS
open PySem PySem.Spec PyProof.Rows L2 DL
end LS
namespace LS
open PySem PySem.Spec PyProof.Rows L2 DL

def w_is_whole (cl : Str → Addr) : DS := (dRet (dAndV (dCB wIsi (dCons (dVar 0) (dCons (dC (.val (.ty "int"))) dNil))) (dNotV (dCB wIsi (dCons (dVar 0) (dCons (dC (.val (.ty "bool"))) dNil))))))

def w_want_letter (cl : Str → Addr) : DS := (dIf (dNot (dB (dChain wLe wLt (dC (.int 0)) (dVar 0) (dC (.int (256)))))) (dRaise (cl "BadLetter") (dCons (dVar 0) dNil)) dNext)

def w_want_counts (cl : Str → Addr) : DS := (dSeq (dAsg (dUn (fun i => -i) (dC (.int 1))) (dgName 1))
    (dFor (diEnum (dCons (dVar 0) dNil)) (dgTup 2 (dgCons (dgName 2) (dgCons (dgTup 2 (dgCons (dgName 3) (dgCons (dgName 4) dgNil))) dgNil))) (dSeq (dDrop (dCall (P_want_letter cl) (dCons (dVar 3) dNil)))
    (dSeq (dIf (dOr (dB (dOp wLe (dVar 3) (dVar 1))) (dNot (dB (dChain wLe wLe (dC (.int 1)) (dVar 4) (dC (.int (1000000))))))) (dRaise (cl "BadCount") (dCons (dVar 2) dNil)) dNext)
    (dAsg (dVar 3) (dgName 1))))))

def w_is_joint (cl : Str → Addr) : DS := (dSeq (dIf (dOr (dNot (dTru (dCB wIsi (dCons (dVar 0) (dCons (dC (.val (.ty "tuple"))) dNil))))) (dB (dOp wNe (dCB wLen (dCons (dVar 0) dNil)) (dC (.int 3))))) (dRet (dC (.bl false))) dNext)
    (dRet (dAndV (dCB (wAll fun b => b.all _root_.id) (dCons (dLc nF (diSeq (dVar 0)) (dgName 1) dYes (dCall (P_is_whole cl) (dCons (dVar 1) dNil)) [1]) dNil)) (dChain wLe wLe (dC (.int (-1))) (dOp wIxA (dVar 0) (dC (.int 0))) (dC (.int (256)))))))

def w_leaves_fit (cl : Str → Addr) : DS := (dSeq (dAsg (dLc nF (diSeq (dVar 0)) (dgTup 3 (dgCons (dgName 3) (dgCons (dgName 4) (dgCons (dgName 5) dgNil)))) (dB (dOp wNe (dVar 3) (dC (.int (-1))))) (dTup (dCons (dVar 3) (dCons (dVar 4) dNil))) [3, 4, 5]) (dgName 1))
    (dSeq (dAsg (dLc nF (diSeq (dVar 1)) (dgTup 2 (dgCons (dgName 3) (dgCons (dgName 5) dgNil))) dYes (dVar 3) [3, 5]) (dgName 2))
    (dSeq (dIf (dOr (dB (dOp wNe (dLenSet (dVar 2)) (dCB wLen (dCons (dVar 2) dNil)))) (dB (dOp (wInT fun b => if true then !b else b) (dTup (dCons (dC (.int (256))) (dCons (dC (.int 1)) dNil))) (dVar 1)))) (dRet (dC (.bl false))) dNext)
    (dRet (dCB (wAll fun b => b.all _root_.id) (dCons (dLc nF (diSeq (dVar 1)) (dgTup 2 (dgCons (dgName 5) (dgCons (dgName 4) dgNil))) dYes (dChain wLe wLe (dC (.int 1)) (dVar 4) (dC (.int (1000000)))) [5, 4]) dNil))))))

def w_order_fits (cl : Str → Addr) : DS := (dRet (dCB (wAll fun b => b.all _root_.id) (dCons (dLc nF (diRng1 (dCons (dOp wSub (dCB wLen (dCons (dVar 0) dNil)) (dC (.int 1))) dNil)) (dgName 1) dYes (dOp wLe (dOp wIxA (dOp wIxA (dVar 0) (dVar 1)) (dC (.int 1))) (dOp wIxA (dOp wIxA (dVar 0) (dOp (wAdd nF) (dVar 1) (dC (.int 1)))) (dC (.int 1)))) [1]) dNil)))

def w_ups_fit (cl : Str → Addr) : DS := (dSeq (dIf (dB (dOp wNe (dOp wIxA (dOp wIxA (dVar 0) (dUn (fun i => -i) (dC (.int 1)))) (dC (.int 2))) (dUn (fun i => -i) (dC (.int 1))))) (dRet (dC (.bl false))) dNext)
    (dSeq (dAsg dNewD (dgName 1))
    (dSeq (dFor (diRng3 (dCons (dC (.int 0)) (dCons (dOp wSub (dCB wLen (dCons (dVar 0) dNil)) (dC (.int 1))) (dCons (dC (.int 2)) dNil)))) (dgName 2) (dSeq (dAsg (dOp wIxA (dOp wIxA (dVar 0) (dVar 2)) (dC (.int 2))) (dgName 3))
    (dSeq (dIf (dOr (dB (dOp wNe (dOp wIxA (dOp wIxA (dVar 0) (dOp (wAdd nF) (dVar 2) (dC (.int 1)))) (dC (.int 2))) (dVar 3))) (dOr (dNot (dB (dChain wLt wLt (dOp (wAdd nF) (dVar 2) (dC (.int 1))) (dVar 3) (dCB wLen (dCons (dVar 0) dNil))))) (dOr (dB (dOp wNe (dOp wIxA (dOp wIxA (dVar 0) (dVar 3)) (dC (.int 0))) (dC (.int (-1))))) (dB (dOp (wIn fun b => if false then !b else b) (dVar 3) (dVar 1)))))) (dRet (dC (.bl false))) dNext)
    (dAsg (dOp (wAdd nF) (dOp wIxA (dOp wIxA (dVar 0) (dVar 2)) (dC (.int 1))) (dOp wIxA (dOp wIxA (dVar 0) (dOp (wAdd nF) (dVar 2) (dC (.int 1)))) (dC (.int 1)))) (dgSub (dVar 1) (dVar 3))))))
    (dRet (dCB (wAll fun b => b.all _root_.id) (dCons (dLc nF (diEnum (dCons (dVar 0) dNil)) (dgTup 2 (dgCons (dgName 2) (dgCons (dgTup 3 (dgCons (dgName 4) (dgCons (dgName 5) (dgCons (dgName 6) dgNil)))) dgNil))) dYes (dOrV (dOp wNe (dVar 4) (dC (.int (-1)))) (dOp wEq (dBM "dict" wGet (dVar 1) (dCons (dVar 2) dNil)) (dVar 5))) [2, 4, 5, 6]) dNil))))))

def w_row_right (cl : Str → Addr) : DS := (dSeq (dIf (dOr (dNot (dTru (dCB wIsi (dCons (dVar 0) (dCons (dC (.val (.ty "tuple"))) dNil))))) (dOr (dNot (dB (dChain wLe wLe (dC (.int 1)) (dCB wLen (dCons (dVar 0) dNil)) (dC (.int (513)))))) (dB (dOp wEq (dOp wMod (dCB wLen (dCons (dVar 0) dNil)) (dC (.int 2))) (dC (.int 0)))))) (dRet (dC (.bl false))) dNext)
    (dSeq (dIf (dNot (dTru (dCB (wAll fun b => b.all _root_.id) (dCons (dLc nF (diSeq (dVar 0)) (dgName 1) dYes (dCall (P_is_joint cl) (dCons (dVar 1) dNil)) [1]) dNil)))) (dRet (dC (.bl false))) dNext)
    (dRet (dAndV (dCall (P_leaves_fit cl) (dCons (dVar 0) dNil)) (dAndV (dCall (P_order_fits cl) (dCons (dVar 0) dNil)) (dCall (P_ups_fit cl) (dCons (dVar 0) dNil)))))))

def w_want_row (cl : Str → Addr) : DS := (dIf (dNot (dTru (dCall (P_row_right cl) (dCons (dVar 0) dNil)))) dNever dNext)

def w_Making___init__ (cl : Str → Addr) : DS := (dSeq (dSetF (cl "Making") "leaves" (dVar 0) (dVar 1))
    (dSeq (dSetF (cl "Making") "pairs" (dVar 0) (dLst nC dNil))
    (dSetF (cl "Making") "row" (dVar 0) (dLst nC dNil))))

def w_Making_many (cl : Str → Addr) : DS := (dRet (dOp (wAdd nF) (dCB wLen (dCons (dFld (cl "Making") "leaves" (dVar 0)) dNil)) (dCB wLen (dCons (dFld (cl "Making") "pairs" (dVar 0)) dNil))))

def w_Making_place_least (cl : Str → Addr) : DS := (dSeq (dIf (dOr (dNot (dTru (dFld (cl "Making") "pairs" (dVar 0)))) (dAnd (dTru (dFld (cl "Making") "leaves" (dVar 0))) (dB (dOp wLe (dOp wIxA (dOp wIxA (dFld (cl "Making") "leaves" (dVar 0)) (dC (.int 0))) (dC (.int 0))) (dOp wIxA (dOp wIxA (dFld (cl "Making") "pairs" (dVar 0)) (dC (.int 0))) (dC (.int 0))))))) (dSeq (dAsg (dBM "list" wPop (dFld (cl "Making") "leaves" (dVar 0)) (dCons (dC (.int 0)) dNil)) (dgTup 2 (dgCons (dgName 1) (dgCons (dgName 2) dgNil))))
    (dAsg (dTup dNil) (dgName 3))) (dSeq (dAsg (dBM "list" wPop (dFld (cl "Making") "pairs" (dVar 0)) (dCons (dC (.int 0)) dNil)) (dgTup 2 (dgCons (dgName 1) (dgCons (dgName 3) dgNil))))
    (dAsg (dC (.int (-1))) (dgName 2))))
    (dSeq (dAsg (dCB wLen (dCons (dFld (cl "Making") "row" (dVar 0)) dNil)) (dgName 4))
    (dSeq (dDrop (dBM "list" wAppend (dFld (cl "Making") "row" (dVar 0)) (dCons (dLst nC (dCons (dVar 2) (dCons (dVar 1) (dCons (dUn (fun i => -i) (dC (.int 1))) dNil)))) dNil)))
    (dSeq (dFor (diSeq (dVar 3)) (dgName 5) (dAsg (dVar 4) (dgSub (dOp wIxA (dFld (cl "Making") "row" (dVar 0)) (dVar 5)) (dC (.int 2)))))
    (dRet (dVar 4))))))

def w_Making_join (cl : Str → Addr) : DS := (dSeq (dPar 1 2 (dCons (dMeth (cl "Making") "place_least" (P_Making_place_least cl) (dVar 0) dNil) (dCons (dMeth (cl "Making") "place_least" (P_Making_place_least cl) (dVar 0) dNil) dNil)))
    (dDrop (dBM "list" wAppend (dFld (cl "Making") "pairs" (dVar 0)) (dCons (dTup (dCons (dOp (wAdd nF) (dOp wIxA (dOp wIxA (dFld (cl "Making") "row" (dVar 0)) (dVar 1)) (dC (.int 1))) (dOp wIxA (dOp wIxA (dFld (cl "Making") "row" (dVar 0)) (dVar 2)) (dC (.int 1)))) (dCons (dTup (dCons (dVar 1) (dCons (dVar 2) dNil))) dNil))) dNil))))

def w_made_row (cl : Str → Addr) : DS := (dSeq (dDrop (dCall (P_want_counts cl) (dCons (dVar 0) dNil)))
    (dSeq (dAsg (dMake (cl "Making") (P_Making___init__ cl) (dCons (dCB (wSortP nC 1048576) (dCons (dOp (wAdd nF) (dLc nF (diSeq (dVar 0)) (dgTup 2 (dgCons (dgName 2) (dgCons (dgName 3) dgNil))) dYes (dTup (dCons (dVar 3) (dCons (dVar 2) dNil))) [2, 3]) (dLst nF (dCons (dTup (dCons (dC (.int 1)) (dCons (dC (.int (256))) dNil))) dNil))) dNil)) dNil)) (dgName 1))
    (dSeq (dWhile (dB (dOp wGt (dMeth (cl "Making") "many" (P_Making_many cl) (dVar 1) dNil) (dC (.int 1)))) (dDrop (dMeth (cl "Making") "join" (P_Making_join cl) (dVar 1) dNil)))
    (dSeq (dDrop (dMeth (cl "Making") "place_least" (P_Making_place_least cl) (dVar 1) dNil))
    (dRet (dCB wTupleOf (dCons (dLc nF (diSeq (dFld (cl "Making") "row" (dVar 1))) (dgTup 3 (dgCons (dgName 4) (dgCons (dgName 3) (dgCons (dgName 5) dgNil)))) dYes (dTup (dCons (dVar 4) (dCons (dVar 3) (dCons (dVar 5) dNil)))) [4, 3, 5]) dNil)))))))

def w_take_least (cl : Str → Addr) : DS := (dSeq (dIf (dOr (dNot (dTru (dVar 1))) (dAnd (dTru (dVar 0)) (dB (dOp wLe (dOp wIxA (dVar 0) (dUn (fun i => -i) (dC (.int 1)))) (dOp wIxA (dVar 1) (dC (.int 0))))))) (dRet (dBM0 "list" wPop (dVar 0))) dNext)
    (dRet (dBM "list" wPop (dVar 1) (dCons (dC (.int 0)) dNil))))

def w_least_of (cl : Str → Addr) : DS := (dSeq (dAsg (dSortRev nC (dCons (dVar 0) dNil)) (dgName 1))
    (dSeq (dAsg (dLst nC dNil) (dgName 2))
    (dSeq (dAsg (dC (.int 0)) (dgName 3))
    (dSeq (dWhile (dB (dOp wGt (dOp (wAdd nF) (dCB wLen (dCons (dVar 1) dNil)) (dCB wLen (dCons (dVar 2) dNil))) (dC (.int 1)))) (dSeq (dAsg (dOp (wAdd nF) (dCall (P_take_least cl) (dCons (dVar 1) (dCons (dVar 2) dNil))) (dCall (P_take_least cl) (dCons (dVar 1) (dCons (dVar 2) dNil)))) (dgName 4))
    (dSeq (dDrop (dBM "list" wAppend (dVar 2) (dCons (dVar 4) dNil)))
    (dAug .Add 3 (dVar 4)))))
    (dRet (dVar 3))))))

def w_least_sum (cl : Str → Addr) : DS := (dSeq (dDrop (dCall (P_want_counts cl) (dCons (dVar 0) dNil)))
    (dRet (dCall (P_least_of cl) (dCons (dOp (wAdd nF) (dLc nF (diSeq (dVar 0)) (dgTup 2 (dgCons (dgName 1) (dgCons (dgName 2) dgNil))) dYes (dVar 2) [1, 2]) (dLst nF (dCons (dC (.int 1)) dNil))) dNil))))

def w_counts_in (cl : Str → Addr) : DS := (dSeq (dDrop (dCall (P_want_row cl) (dCons (dVar 0) dNil)))
    (dRet (dCB wTupleOf (dCons (dCB (wSortP nF 1048576) (dCons (dLc nF (diSeq (dVar 0)) (dgTup 3 (dgCons (dgName 1) (dgCons (dgName 2) (dgCons (dgName 3) dgNil)))) (dB (dOp (wIn fun b => if true then !b else b) (dVar 1) (dTup (dCons (dC (.int (-1))) (dCons (dC (.int (256))) dNil))))) (dTup (dCons (dVar 1) (dCons (dVar 2) dNil))) [1, 2, 3]) dNil)) dNil))))

def w_sum_of (cl : Str → Addr) : DS := (dSeq (dDrop (dCall (P_want_row cl) (dCons (dVar 0) dNil)))
    (dRet (dCB wSum (dCons (dLc nF (diSeq (dVar 0)) (dgTup 3 (dgCons (dgName 1) (dgCons (dgName 2) (dgCons (dgName 3) dgNil)))) (dB (dOp wEq (dVar 1) (dC (.int (-1))))) (dVar 2) [1, 2, 3]) dNil))))

def w__law_pool (cl : Str → Addr) : DS := (dSeq (dAsg (dC (.int 0)) (dgName 2))
    (dSeq (dIf (dB (dOp wLt (dVar 1) (dCB wLen (dCons (dVar 0) dNil)))) (dAsg (dOp wIxA (dVar 0) (dVar 1)) (dgName 2)) (dIf (dTru (dVar 0)) (dAsg (dOp wIxA (dVar 0) (dC (.int 0))) (dgName 2)) dNext))
    (dSeq (dAsg (dCB wMax2 (dCons (dCB wInt (dCons (dVar 2) dNil)) (dCons (dCB wInt (dCons (dOp wSub (dUn (fun i => -i) (dC (.int 1))) (dVar 2)) dNil)) dNil))) (dgName 3))
    (dSeq (dAsg (dOp wMod (dCB wInt (dCons (dOp (wMul nF) (dOp (wAdd nF) (dOp (wAdd nF) (dOp (wAdd nF) (dOp wMod (dCB wInt (dCons (dVar 3) dNil)) (dC (.int 2147483629))) (dOp (wMul nF) (dOp (wMul nF) (dC (.int 7919)) (dVar 1)) (dVar 1))) (dOp (wMul nF) (dC (.int 31)) (dVar 1))) (dC (.int 17))) (dC (.int 48271))) dNil)) (dC (.int 2147483647))) (dgName 4))
    (dRet (dLst nC (dCons (dOp (wMul nF) (dVar 3) (dCB wInt (dCons (dOp wGe (dVar 3) (dOp wPow (dC (.int 10)) (dC (.int 18)))) dNil))) (dCons (dVar 4) dNil))))))))

def w__law_take (cl : Str → Addr) : DS := (dSeq (dIf (dB (dOp wGt (dOp wIxA (dVar 0) (dC (.int 0))) (dC (.int 0)))) (dSeq (dAsg (dOp wMod (dCB wInt (dCons (dOp wIxA (dVar 0) (dC (.int 0))) dNil)) (dVar 1)) (dgName 2))
    (dSeq (dAsg (dOp wDiv (dOp wIxA (dVar 0) (dC (.int 0))) (dVar 1)) (dgSub (dVar 0) (dC (.int 0))))
    (dRet (dVar 2)))) dNext)
    (dSeq (dAsg (dOp wMod (dCB wInt (dCons (dOp (wAdd nF) (dOp (wMul nF) (dOp wIxA (dVar 0) (dC (.int 1))) (dC (.int 39373))) (dC (.int 7))) dNil)) (dC (.int 2147483647))) (dgSub (dVar 0) (dC (.int 1))))
    (dRet (dOp wMod (dCB wInt (dCons (dOp wDiv (dOp wMod (dCB wInt (dCons (dOp (wMul nF) (dOp wIxA (dVar 0) (dC (.int 1))) (dOp wIxA (dVar 0) (dC (.int 1)))) dNil)) (dC (.int 2147483629))) (dC (.int 32))) dNil)) (dVar 1)))))

def w__law_one (cl : Str → Addr) : DS := (dRet (dOp wIxA (dVar 1) (dCall (P__law_take cl) (dCons (dVar 0) (dCons (dCB wLen (dCons (dVar 1) dNil)) dNil)))))

def w__law_alphabet (cl : Str → Addr) : DS := (dSeq (dAsg (dLst nC dNil) (dgName 2))
    (dSeq (dFor (diRng1 (dCons (dOp (wAdd nF) (dC (.int 1)) (dCall (P__law_take cl) (dCons (dVar 0) (dCons (dVar 1) dNil)))) dNil)) (dgName 3) (dSeq (dAsg (dCall (P__law_one cl) (dCons (dVar 0) (dCons (dLst nF (dCons (dC (.int 0)) (dCons (dC (.int 255)) (dCons (dCall (P__law_take cl) (dCons (dVar 0) (dCons (dC (.int 256)) dNil))) (dCons (dCall (P__law_take cl) (dCons (dVar 0) (dCons (dC (.int 8)) dNil))) dNil))))) dNil))) (dgName 4))
    (dIf (dB (dOp (wIn fun b => if true then !b else b) (dVar 4) (dVar 2))) (dDrop (dBM "list" wAppend (dVar 2) (dCons (dVar 4) dNil))) dNext)))
    (dRet (dGv (dVar 2)))))

def w__law_letters (cl : Str → Addr) : DS := (dSeq (dPar 2 3 (dCons (dCall (P__law_alphabet cl) (dCons (dVar 0) (dCons (dCall (P__law_one cl) (dCons (dVar 0) (dCons (dLst nF (dCons (dC (.int 1)) (dCons (dC (.int 2)) (dCons (dC (.int 3)) (dCons (dC (.int 5)) (dCons (dC (.int 8)) dNil)))))) dNil))) dNil))) (dCons (dLst nC dNil) dNil)))
    (dSeq (dPar 4 5 (dCons (dCall (P__law_take cl) (dCons (dVar 0) (dCons (dC (.int 4)) dNil))) (dCons (dCall (P__law_take cl) (dCons (dVar 0) (dCons (dOp (wAdd nF) (dVar 1) (dC (.int 1))) dNil))) dNil)))
    (dSeq (dFor (diRng1 (dCons (dVar 5) dNil)) (dgName 6) (dIf (dB (dOp wEq (dVar 4) (dC (.int 0)))) (dDrop (dBM "list" wAppend (dVar 3) (dCons (dCall (P__law_one cl) (dCons (dVar 0) (dCons (dVar 2) dNil))) dNil))) (dIf (dB (dOp wEq (dVar 4) (dC (.int 1)))) (dDrop (dBM "list" wAppend (dVar 3) (dCons (dOp wIxA (dVar 2) (dCB wMin2 (dCons (dCall (P__law_take cl) (dCons (dVar 0) (dCons (dCB wLen (dCons (dVar 2) dNil)) dNil))) (dCons (dCall (P__law_take cl) (dCons (dVar 0) (dCons (dCB wLen (dCons (dVar 2) dNil)) dNil))) dNil)))) dNil))) (dIf (dB (dOp wEq (dVar 4) (dC (.int 2)))) (dDrop (dBM "list" wAppend (dVar 3) (dCons (dOp wIxA (dVar 2) (dOp wDiv (dOp (wMul nF) (dVar 6) (dCB wLen (dCons (dVar 2) dNil))) (dCB wMax2 (dCons (dC (.int 1)) (dCons (dVar 5) dNil))))) dNil))) (dDrop (dBM "list" wAppend (dVar 3) (dCons (dOp wIxA (dVar 2) (dOp wMod (dCB wInt (dCons (dVar 6) dNil)) (dCB wLen (dCons (dVar 2) dNil)))) dNil)))))))
    (dRet (dCB wTupleOf (dCons (dVar 3) dNil))))))

def w__law_counts (cl : Str → Addr) : DS := (dSeq (dPar3 2 3 4 (dCons (dLst nC dNil) (dCons (dCall (P__law_take cl) (dCons (dVar 0) (dCons (dC (.int 4)) dNil))) (dCons (dC (.int 1)) dNil))))
    (dSeq (dFor (diSeq (dSortSet nF (dCall (P__law_alphabet cl) (dCons (dVar 0) (dCons (dVar 1) dNil))))) (dgName 5) (dSeq (dAsg (dCall (P__law_one cl) (dCons (dVar 0) (dCons (dLst nF (dCons (dC (.int 1)) (dCons (dC (.int 2)) (dCons (dC (.int 1000000)) (dCons (dC (.int 999999)) (dCons (dOp (wAdd nF) (dC (.int 1)) (dCall (P__law_take cl) (dCons (dVar 0) (dCons (dC (.int 1000)) dNil)))) dNil)))))) dNil))) (dgName 6))
    (dSeq (dDrop (dBM "list" wAppend (dVar 2) (dCons (dTup (dCons (dVar 5) (dCons (dOp wIxA (dLst nF (dCons (dOp (wAdd nF) (dC (.int 1)) (dCall (P__law_take cl) (dCons (dVar 0) (dCons (dC (.int 5)) dNil)))) (dCons (dOp (wAdd nF) (dC (.int 1)) (dCall (P__law_take cl) (dCons (dVar 0) (dCons (dC (.int 2)) dNil)))) (dCons (dVar 4) (dCons (dVar 6) dNil))))) (dVar 3)) dNil))) dNil)))
    (dAsg (dCB wMin2 (dCons (dC (.int 1000000)) (dCons (dOp (wMul nF) (dC (.int 2)) (dVar 4)) dNil))) (dgName 4)))))
    (dRet (dCB wTupleOf (dCons (dVar 2) dNil)))))

def w__law_counted (cl : Str → Addr) : DS := (dRet (dCB wTupleOf (dCons (dLc nF (diSeq (dSortSetT nF (dVar 0))) (dgName 1) dYes (dTup (dCons (dVar 1) (dCons (dCB wLen (dCons (dLc nF (diSeq (dVar 0)) (dgName 2) (dB (dOp wEq (dVar 2) (dVar 1))) (dVar 2) [2]) dNil)) dNil))) [1]) dNil)))

def w__law_least (cl : Str → Addr) : DS := (dSeq (dPar 1 2 (dCons (dOp (wAdd nF) (dLst nF (dCons (dC (.int 1)) dNil)) (dLc nF (diSeq (dVar 0)) (dgTup 2 (dgCons (dgName 5) (dgCons (dgName 6) dgNil))) dYes (dVar 6) [5, 6])) (dCons (dC (.int 0)) dNil)))
    (dSeq (dFor (diRng1 (dCons (dCB wLen (dCons (dVar 0) dNil)) dNil)) (dgName 3) (dSeq (dAsg (dCB (wSortI nF) (dCons (dVar 1) dNil)) (dgName 1))
    (dSeq (dAsg (dOp (wAdd nF) (dOp wIxA (dVar 1) (dC (.int 0))) (dOp wIxA (dVar 1) (dC (.int 1)))) (dgName 4))
    (dPar 2 1 (dCons (dOp (wAdd nF) (dVar 2) (dVar 4)) (dCons (dOp (wAdd nF) (dSl nF (dVar 1) (dPart (dC (.int 2))) dNoPart) (dLst nF (dCons (dVar 4) dNil))) dNil))))))
    (dRet (dVar 2))))

def w__law_made (cl : Str → Addr) : DS := (dSeq (dPar3 1 2 3 (dCons (dCB (wSortP nF 1048576) (dCons (dOp (wAdd nF) (dLc nF (diSeq (dVar 0)) (dgTup 2 (dgCons (dgName 9) (dgCons (dgName 5) dgNil))) dYes (dTup (dCons (dVar 5) (dCons (dVar 9) dNil))) [9, 5]) (dLst nF (dCons (dTup (dCons (dC (.int 1)) (dCons (dC (.int 256)) dNil))) dNil))) dNil)) (dCons (dLst nF dNil) (dCons (dLst nC dNil) dNil))))
    (dSeq (dFor (diRng1 (dCons (dOp (wAdd nF) (dOp (wMul nF) (dC (.int 2)) (dCB wLen (dCons (dVar 0) dNil))) (dC (.int 1))) dNil)) (dgName 4) (dSeq (dIf (dOr (dNot (dTru (dVar 2))) (dAnd (dTru (dVar 1)) (dB (dOp wLe (dOp wIxA (dOp wIxA (dVar 1) (dC (.int 0))) (dC (.int 0))) (dOp wIxA (dOp wIxA (dVar 2) (dC (.int 0))) (dC (.int 0))))))) (dSeq (dAsg (dOp wIxA (dVar 1) (dC (.int 0))) (dgTup 2 (dgCons (dgName 5) (dgCons (dgName 6) dgNil))))
    (dPar 7 1 (dCons (dLst nF dNil) (dCons (dSl nF (dVar 1) (dPart (dC (.int 1))) dNoPart) dNil)))) (dSeq (dAsg (dOp wIxA (dVar 2) (dC (.int 0))) (dgTup 2 (dgCons (dgName 5) (dgCons (dgName 7) dgNil))))
    (dPar 6 2 (dCons (dUn (fun i => -i) (dC (.int 1))) (dCons (dSl nF (dVar 2) (dPart (dC (.int 1))) dNoPart) dNil)))))
    (dSeq (dDrop (dBM "list" wAppend (dVar 3) (dCons (dLst nC (dCons (dVar 6) (dCons (dVar 5) (dCons (dUn (fun i => -i) (dC (.int 1))) dNil)))) dNil)))
    (dSeq (dFor (diSeq (dVar 7)) (dgName 8) (dAsg (dOp wSub (dCB wLen (dCons (dVar 3) dNil)) (dC (.int 1))) (dgSub (dOp wIxA (dVar 3) (dVar 8)) (dC (.int 2)))))
    (dIf (dB (dOp wEq (dOp wMod (dCB wInt (dCons (dCB wLen (dCons (dVar 3) dNil)) dNil)) (dC (.int 2))) (dC (.int 0)))) (dAsg (dOp (wAdd nF) (dVar 2) (dLst nF (dCons (dTup (dCons (dOp (wAdd nF) (dOp wIxA (dOp wIxA (dVar 3) (dUn (fun i => -i) (dC (.int 2)))) (dC (.int 1))) (dOp wIxA (dOp wIxA (dVar 3) (dUn (fun i => -i) (dC (.int 1)))) (dC (.int 1)))) (dCons (dLst nF (dCons (dOp wSub (dCB wLen (dCons (dVar 3) dNil)) (dC (.int 2))) (dCons (dOp wSub (dCB wLen (dCons (dVar 3) dNil)) (dC (.int 1))) dNil))) dNil))) dNil))) (dgName 2)) dNext)))))
    (dRet (dGv (dVar 3)))))

def w__law_tuple (cl : Str → Addr) : DS := (dRet (dCB wTupleOf (dCons (dLc nF (diSeq (dVar 0)) (dgTup 3 (dgCons (dgName 1) (dgCons (dgName 2) (dgCons (dgName 3) dgNil)))) dYes (dTup (dCons (dVar 1) (dCons (dVar 2) (dCons (dVar 3) dNil)))) [1, 2, 3]) dNil)))

def w__law_told (cl : Str → Addr) (em : Addr → Addr → Option Bool) (gd : Addr → Prop) : DS := (dSeq (dTry em gd (dAsg (dCall (P_made_row cl) (dCons (dVar 0) dNil)) (dgName 1)) [⟨cl "BadLetter", some 2, fun xa xd => (dRet (dTup (dCons (dC (.str "letter")) (dCons (dWhat 2 xa xd) dNil))))⟩, ⟨cl "BadCount", some 2, fun xa xd => (dRet (dTup (dCons (dC (.str "count")) (dCons (dWhat 2 xa xd) dNil))))⟩, ⟨cl "Refused", none, fun xa xd => (dRet (dTup (dCons (dC (.str "other")) (dCons (dC (.int 0)) dNil))))⟩])
    (dRet (dTup (dCons (dC (.str "none")) (dCons (dVar 1) dNil)))))

def w__law_made_right (cl : Str → Addr) : DS := (dSeq (dAsg (dTup (dCons (dCall (P__law_tuple cl) (dCons (dCall (P__law_made cl) (dCons (dVar 0) dNil)) dNil)) (dCons (dCall (P__law_least cl) (dCons (dVar 0) dNil)) dNil))) (dgTup 2 (dgCons (dgName 1) (dgCons (dgName 2) dgNil))))
    (dSeq (dIf (dOr (dB (dOp wNe (dCall (P__law_told cl) (dCons (dVar 0) dNil)) (dTup (dCons (dC (.str "none")) (dCons (dVar 1) dNil))))) (dOr (dB (dOp wNe (dCall (P_made_row cl) (dCons (dVar 0) dNil)) (dVar 1))) (dNot (dTru (dCall (P_row_right cl) (dCons (dVar 1) dNil)))))) (dRet (dC (.bl false))) dNext)
    (dSeq (dIf (dOr (dB (dOp wNe (dCall (P_counts_in cl) (dCons (dVar 1) dNil)) (dVar 0))) (dOr (dB (dOp wNe (dCall (P_sum_of cl) (dCons (dVar 1) dNil)) (dVar 2))) (dB (dOp wNe (dCall (P_least_sum cl) (dCons (dVar 0) dNil)) (dVar 2))))) (dRet (dC (.bl false))) dNext)
    (dSeq (dAsg (dTup (dCons (dLc nF (diSeq (dVar 1)) (dgTup 3 (dgCons (dgName 6) (dgCons (dgName 7) (dgCons (dgName 8) dgNil)))) dYes (dVar 8) [6, 7, 8]) (dCons (dOp (wMul nC) (dLst nF (dCons (dC (.int 0)) dNil)) (dCB wLen (dCons (dVar 1) dNil))) dNil))) (dgTup 2 (dgCons (dgName 3) (dgCons (dgName 4) dgNil))))
    (dSeq (dFor (diRng1 (dCons (dOp wSub (dCB wLen (dCons (dVar 1) dNil)) (dC (.int 1))) dNil)) (dgName 5) (dAsg (dOp (wAdd nF) (dOp wIxA (dVar 4) (dOp wIxA (dVar 3) (dVar 5))) (dOp wIxA (dOp wIxA (dVar 1) (dVar 5)) (dC (.int 1)))) (dgSub (dVar 4) (dOp wIxA (dVar 3) (dVar 5)))))
    (dRet (dOp wEq (dLc nF (diRng1 (dCons (dCB wLen (dCons (dVar 1) dNil)) dNil)) (dgName 5) (dAnd (dB (dOp wEq (dOp wIxA (dOp wIxA (dVar 1) (dVar 5)) (dC (.int 0))) (dUn (fun i => -i) (dC (.int 1))))) (dB (dOp wNe (dOp wIxA (dVar 4) (dVar 5)) (dOp wIxA (dOp wIxA (dVar 1) (dVar 5)) (dC (.int 1)))))) (dC (.int 1)) [5]) (dLst nF dNil))))))))

def w__law_fault_right (cl : Str → Addr) : DS := (dSeq (dPar 2 3 (dCons (dLc nC (diSeq (dVar 1)) (dgName 8) dYes (dVar 8) [8]) (dCons (dCall (P__law_take cl) (dCons (dVar 0) (dCons (dCB wLen (dCons (dVar 1) dNil)) dNil))) dNil)))
    (dSeq (dAsg (dOp wIxA (dVar 2) (dVar 3)) (dgTup 2 (dgCons (dgName 4) (dgCons (dgName 5) dgNil))))
    (dSeq (dFor (diRng2 (dCons (dOp (wAdd nF) (dVar 3) (dC (.int 1))) (dCons (dCB wLen (dCons (dVar 2) dNil)) dNil))) (dgName 6) (dIf (dB (dOp wEq (dCall (P__law_take cl) (dCons (dVar 0) (dCons (dC (.int 8)) dNil))) (dC (.int 0)))) (dAsg (dTup (dCons (dCall (P__law_one cl) (dCons (dVar 0) (dCons (dLst nF (dCons (dC (.int 300)) (dCons (dOp wIxA (dOp wIxA (dVar 2) (dVar 6)) (dC (.int 0))) dNil))) dNil))) (dCons (dC (.int 0)) dNil))) (dgSub (dVar 2) (dVar 6))) dNext))
    (dSeq (dAsg (dCall (P__law_take cl) (dCons (dVar 0) (dCons (dC (.int 4)) dNil))) (dgName 7))
    (dSeq (dIf (dB (dOp wEq (dVar 7) (dC (.int 0)))) (dSeq (dAsg (dTup (dCons (dCall (P__law_one cl) (dCons (dVar 0) (dCons (dLst nF (dCons (dUn (fun i => -i) (dC (.int 1))) (dCons (dC (.int 256)) (dCons (dOp wPow (dC (.int 10)) (dC (.int 20))) (dCons (dUn (fun i => -i) (dOp wPow (dC (.int 10)) (dC (.int 20)))) dNil))))) dNil))) (dCons (dCall (P__law_one cl) (dCons (dVar 0) (dCons (dLst nF (dCons (dVar 5) (dCons (dC (.int 0)) dNil))) dNil))) dNil))) (dgSub (dVar 2) (dVar 3)))
    (dRet (dOp wEq (dCall (P__law_told cl) (dCons (dCB wTupleOf (dCons (dVar 2) dNil)) dNil)) (dTup (dCons (dC (.str "letter")) (dCons (dOp wIxA (dOp wIxA (dVar 2) (dVar 3)) (dC (.int 0))) dNil)))))) dNext)
    (dSeq (dIf (dB (dOp wEq (dVar 7) (dC (.int 1)))) (dSeq (dAsg (dTup (dCons (dVar 4) (dCons (dCall (P__law_one cl) (dCons (dVar 0) (dCons (dLst nF (dCons (dC (.int 0)) (dCons (dUn (fun i => -i) (dC (.int 1))) (dCons (dC (.int 1000001)) (dCons (dOp wPow (dC (.int 10)) (dC (.int 20))) dNil))))) dNil))) dNil))) (dgSub (dVar 2) (dVar 3)))
    (dRet (dOp wEq (dCall (P__law_told cl) (dCons (dCB wTupleOf (dCons (dVar 2) dNil)) dNil)) (dTup (dCons (dC (.str "count")) (dCons (dVar 3) dNil)))))) dNext)
    (dSeq (dDrop (dBM "list" wInsert (dVar 2) (dCons (dOp (wAdd nF) (dVar 3) (dC (.int 1))) (dCons (dTup (dCons (dIfE (dB (dOp wEq (dVar 7) (dC (.int 2)))) (dVar 4) (dCall (P__law_take cl) (dCons (dVar 0) (dCons (dOp (wAdd nF) (dVar 4) (dC (.int 1))) dNil)))) (dCons (dC (.int 1)) dNil))) dNil))))
    (dRet (dOp wEq (dCall (P__law_told cl) (dCons (dCB wTupleOf (dCons (dVar 2) dNil)) dNil)) (dTup (dCons (dC (.str "count")) (dCons (dOp (wAdd nF) (dVar 3) (dC (.int 1))) dNil))))))))))))

def w__law_right (cl : Str → Addr) : DS := (dSeq (dAsg (dCall (P__law_counts cl) (dCons (dVar 0) (dCons (dC (.int 24)) dNil))) (dgName 1))
    (dSeq (dIf (dB (dOp wEq (dCall (P__law_take cl) (dCons (dVar 0) (dCons (dC (.int 3)) dNil))) (dC (.int 0)))) (dAsg (dCall (P__law_counted cl) (dCons (dCall (P__law_letters cl) (dCons (dVar 0) (dCons (dC (.int 40)) dNil))) dNil)) (dgName 1)) dNext)
    (dSeq (dIf (dNot (dTru (dCall (P__law_made_right cl) (dCons (dVar 1) dNil)))) (dRet (dC (.bl false))) dNext)
    (dSeq (dIf (dAnd (dTru (dVar 1)) (dAnd (dB (dOp wEq (dCall (P__law_take cl) (dCons (dVar 0) (dCons (dC (.int 3)) dNil))) (dC (.int 0)))) (dOr (dNot (dTru (dCall (P__law_fault_right cl) (dCons (dVar 0) (dCons (dVar 1) dNil))))) (dNot (dTru (dCall (P__law_made_right cl) (dCons (dVar 1) dNil))))))) (dRet (dC (.bl false))) dNext)
    (dSeq (dIf (dB (dOp wGt (dCall (P__law_take cl) (dCons (dVar 0) (dCons (dC (.int 24)) dNil))) (dC (.int 0)))) (dRet (dC (.bl true))) dNext)
    (dSeq (dAsg (dOp (wAdd nF) (dC (.int 1)) (dCall (P__law_take cl) (dCons (dVar 0) (dCons (dC (.int 5)) dNil)))) (dgName 2))
    (dRet (dCall (P__law_made_right cl) (dCons (dCB wTupleOf (dCons (dLc nF (diRng1 (dCons (dC (.int 256)) dNil)) (dgName 3) dYes (dTup (dCons (dVar 3) (dCons (dOp (wAdd nF) (dC (.int 1)) (dOp wMod (dCB wInt (dCons (dOp (wMul nF) (dVar 3) (dVar 2)) dNil)) (dC (.int 11)))) dNil))) [3]) dNil)) dNil)))))))))

def w_law (cl : Str → Addr) : DS := (dSeq (dFor (diRng1 (dCons (dCB wMax2 (dCons (dC (.int 1)) (dCons (dCB wMin2 (dCons (dCB wLen (dCons (dVar 0) dNil)) (dCons (dC (.int 2)) dNil))) dNil))) dNil)) (dgName 1) (dIf (dNot (dTru (dCall (P__law_right cl) (dCons (dCall (P__law_pool cl) (dCons (dVar 0) (dCons (dVar 1) dNil))) dNil)))) (dRet (dC (.bl false))) dNext))
    (dSeq (dIf (dB (dOp wNe (dCall (P_made_row cl) (dCons (dTup (dCons (dTup (dCons (dC (.int 5)) (dCons (dC (.int 2)) dNil))) (dCons (dTup (dCons (dC (.int 7)) (dCons (dC (.int 1)) dNil))) dNil))) dNil)) (dTup (dCons (dTup (dCons (dC (.int 7)) (dCons (dC (.int 1)) (dCons (dC (.int 3)) dNil)))) (dCons (dTup (dCons (dC (.int 256)) (dCons (dC (.int 1)) (dCons (dC (.int 3)) dNil)))) (dCons (dTup (dCons (dC (.int 5)) (dCons (dC (.int 2)) (dCons (dC (.int 4)) dNil)))) (dCons (dTup (dCons (dUn (fun i => -i) (dC (.int 1))) (dCons (dC (.int 2)) (dCons (dC (.int 4)) dNil)))) (dCons (dTup (dCons (dUn (fun i => -i) (dC (.int 1))) (dCons (dC (.int 4)) (dCons (dUn (fun i => -i) (dC (.int 1))) dNil)))) dNil)))))))) (dRet (dC (.bl false))) dNext)
    (dRet (dOp wEq (dCall (P_made_row cl) (dCons (dTup dNil) dNil)) (dTup (dCons (dTup (dCons (dC (.int 256)) (dCons (dC (.int 1)) (dCons (dUn (fun i => -i) (dC (.int 1))) dNil)))) dNil))))))

end LS
namespace LS
/-- a row's letters by a count of each -/
structure Cnt (t : T) (f : Int → Int) : Prop where
  pos : ∀ z, 0 ≤ z → z < 256 → 0 ≤ f z
  has : ∀ z v, 0 ≤ z → z < 256 → (Has t z v ↔ v = f z ∧ 1 ≤ v)
def bmp (f : Int → Int) (z δ : Int) : Int → Int := fun x => if x = z then f x + δ else f x
theorem counted_cnt {t t' : T} {z : Int} {f : Int → Int} (r : Right t) (h : Cnt t f) (z0 : 0 ≤ z) (z1 : z < 256) (hf : f z < 1000000) (c : Counted t z t') : Right t' ∧ Cnt t' (bmp f z 1) ∧ t'.n ≤ t.n + 2 := by
  rcases c with ⟨i, hi, hk, s⟩ | ⟨hn, s⟩
  · have e := (h.has z (t.c i) z0 z1).mp ⟨i, hi, hk, rfl⟩
    obtain ⟨r', ch⟩ := raise_right r hi (by omega) (by omega) (by omega) s
    refine ⟨r', ⟨fun x h0 h1 => ?_, fun x v h0 h1 => ?_⟩, by have := steps_n s; omega⟩
    · have := h.pos x h0 h1; unfold bmp; split <;> omega
    · rw [ch x v h0, hk]
      unfold bmp
      by_cases q : x = z
      · rw [if_pos q, if_pos q, h.has x _ h0 h1, q]; omega
      · rw [if_neg q, if_neg q, h.has x _ h0 h1]
  · obtain ⟨r', ch⟩ := enter_right r z0 z1 hn s
    have f0 : f z = 0 := by
      by_cases q : 1 ≤ f z
      · obtain ⟨i, hi, hk, _⟩ := (h.has z (f z) z0 z1).mpr ⟨rfl, q⟩
        exact absurd hk (hn i hi)
      · have := h.pos z z0 z1; omega
    refine ⟨r', ⟨fun x h0 h1 => ?_, fun x v h0 h1 => ?_⟩, by have := steps_n s; have e : (entT t z).n = t.n + 2 := rfl; omega⟩
    · have := h.pos x h0 h1; unfold bmp; split <;> omega
    · rw [ch x v h0]
      unfold bmp
      by_cases q : x = z
      · rw [if_pos q, if_pos q, q, f0]; omega
      · rw [if_neg q, if_neg q, h.has x _ h0 h1]
theorem uncounted_cnt {t t' : T} {z : Int} {f : Int → Int} (r : Right t) (h : Cnt t f) (z0 : 0 ≤ z) (z1 : z < 256) (c : Uncounted t z t') : Right t' ∧ Cnt t' (bmp f z (-1)) ∧ t'.n ≤ t.n := by
  obtain ⟨i, hi, hk, c⟩ := c
  have e := (h.has z (t.c i) z0 z1).mp ⟨i, hi, hk, rfl⟩
  rcases c with ⟨ne, s⟩ | ⟨c1, t1, s, rfl⟩
  · obtain ⟨r', ch⟩ := lower_right r hi (by omega) (by omega) (by omega) s
    refine ⟨r', ⟨fun x h0 h1 => ?_, fun x v h0 h1 => ?_⟩, by have := steps_n s; omega⟩
    · have := h.pos x h0 h1; unfold bmp; split
      · rename_i q; subst q; omega
      · omega
    · rw [ch x v h0, hk]
      unfold bmp
      by_cases q : x = z
      · rw [if_pos q, if_pos q, h.has x _ h0 h1, q]; omega
      · rw [if_neg q, if_neg q, h.has x _ h0 h1]
  · obtain ⟨_, r', ch⟩ := leave_right r hi (by omega) (by omega) c1 s
    refine ⟨r', ⟨fun x h0 h1 => ?_, fun x v h0 h1 => ?_⟩, by have := steps_n s; have e : (leaT t1).n = t1.n - 2 := rfl; omega⟩
    · have := h.pos x h0 h1; unfold bmp; split
      · rename_i q; subst q; omega
      · omega
    · rw [ch x v h0, hk]
      unfold bmp
      by_cases q : x = z
      · rw [if_pos q, q]; constructor
        · rintro ⟨a, _⟩; exact absurd rfl a
        · omega
      · rw [if_neg q, h.has x _ h0 h1]
        exact ⟨fun a => a.2, fun a => ⟨q, a⟩⟩
theorem Cnt.there {t : T} {f : Int → Int} (h : Cnt t f) {z : Int} (z0 : 0 ≤ z) (z1 : z < 256) (h1 : 1 ≤ f z) : ∃ i, i < t.n ∧ t.k i = z := by
  obtain ⟨i, hi, hk, _⟩ := (h.has z (f z) z0 z1).mpr ⟨rfl, h1⟩
  exact ⟨i, hi, hk⟩
/-- the row of a lone escape -/
def t256 : T := ⟨1, fun _ => 256, fun _ => 1, fun _ => -1⟩
theorem right256 : Right t256 := by
  refine ⟨⟨⟨rfl, rfl, fun i e h => ?_, fun i e h => ?_, fun i j e1 e2 h => ?_, fun q hq hk => ?_, fun i hi => ?_, fun i j hi hj _ _ => ?_⟩, fun i e h => ?_, fun i h => ?_, fun i hi => ?_, by decide⟩, fun i hi => ?_, fun i hi _ => ?_, ⟨0, by decide, rfl, rfl⟩⟩
  all_goals try (have h : i + 1 < 1 := h; omega)
  · have hk : (256 : Int) = -1 := hk
    omega
  · show -1 ≤ (256 : Int) ∧ (256 : Int) ≤ 256; omega
  · have hi : i < 1 := hi
    have hj : j < 1 := hj
    omega
  · show (0 : Int) ≤ 1; omega
  · show (1 : Int) ≤ 1; omega
  · show (1 : Int) ≤ 1000000; omega
theorem cnt256 : Cnt t256 (fun _ => 0) := ⟨fun _ _ _ => Int.le_refl _, fun z v h0 h1 => ⟨fun ⟨i, hi, hk, _⟩ => by
  have hk : (256 : Int) = z := hk
  omega, fun ⟨a, b⟩ => by omega⟩⟩
end LS
namespace LS
open PySem PySem.Spec PyProof.Rows L2 DL
/-- what a model says of a letter -/
def vM (ml : List (Int × Int)) (z : Int) : Int := (ml.lookup z).getD 0
def putM : List (Int × Int) → Int → Int → List (Int × Int)
  | [], z, v => [(z, v)]
  | (y, w) :: r, z, v => if y = z then (y, v) :: r else (y, w) :: putM r z v
theorem putM_len : ∀ {ml : List (Int × Int)} {z v : Int}, (putM ml z v).length ≤ ml.length + 1
  | [], z, v => by simp [putM]
  | (y, w) :: r, z, v => by
    unfold putM
    split
    · simp
    · have := putM_len (ml := r) (z := z) (v := v)
      simp; omega
theorem putM_len_in : ∀ {ml : List (Int × Int)} {z v u : Int}, ml.lookup z = some u → (putM ml z v).length = ml.length
  | [], z, v, u, h => by simp at h
  | (y, w) :: r, z, v, u, h => by
    unfold putM
    by_cases e : y = z
    · rw [if_pos e]; simp
    · rw [if_neg e]
      rw [List.lookup_cons] at h
      have : (z == y) = false := by simpa using fun q => e q.symm
      rw [this] at h
      have := putM_len_in (v := v) h
      simp [this]
theorem putM_look : ∀ {ml : List (Int × Int)} {z v x : Int}, (putM ml z v).lookup x = if x = z then some v else ml.lookup x
  | [], z, v, x => by
    unfold putM
    rw [List.lookup_cons]
    by_cases e : x = z
    · simp [e]
    · have : (x == z) = false := by simpa using e
      rw [this, if_neg e]
  | (y, w) :: r, z, v, x => by
    unfold putM
    by_cases e : y = z
    · rw [if_pos e, List.lookup_cons, List.lookup_cons]
      by_cases q : x = y
      · subst q; subst e; simp
      · have : (x == y) = false := by simpa using q
        rw [this, if_neg (by rw [← e]; exact q)]
    · rw [if_neg e, List.lookup_cons, List.lookup_cons]
      by_cases q : x = y
      · subst q; simp [e]
      · have : (x == y) = false := by simpa using q
        simp only [this]
        exact putM_look
theorem look_mem {ml : List (Int × Int)} (nd : ml.Pairwise fun p q => p.1 ≠ q.1) {z v : Int} : ml.lookup z = some v ↔ (z, v) ∈ ml := by
  induction ml with
  | nil => simp
  | cons p r ih =>
    obtain ⟨y, w⟩ := p
    have nd := List.pairwise_cons.mp nd
    rw [List.lookup_cons, List.mem_cons]
    by_cases e : z = y
    · subst e
      simp only [beq_self_eq_true]
      constructor
      · intro h; cases h; exact .inl rfl
      · rintro (h | h)
        · cases h; rfl
        · exact (nd.1 _ h rfl).elim
    · have : (z == y) = false := by simpa using e
      rw [this]
      simp only []
      rw [ih nd.2]
      constructor
      · exact .inr
      · rintro (h | h)
        · cases h; exact absurd rfl e
        · exact h
theorem putM_fst : ∀ {ml : List (Int × Int)} {z v : Int} {p : Int × Int}, p ∈ putM ml z v → p = (z, v) ∨ p ∈ ml
  | [], z, v, p, h => by simp [putM] at h; exact .inl h
  | (y, w) :: r, z, v, p, h => by
    unfold putM at h
    by_cases e : y = z
    · rw [if_pos e] at h
      rcases List.mem_cons.mp h with h | h
      · exact .inl (by rw [h, e])
      · exact .inr (List.mem_cons_of_mem _ h)
    · rw [if_neg e] at h
      rcases List.mem_cons.mp h with h | h
      · exact .inr (by rw [h]; exact List.mem_cons_self ..)
      · rcases putM_fst h with h | h
        · exact .inl h
        · exact .inr (List.mem_cons_of_mem _ h)
theorem putM_nd : ∀ {ml : List (Int × Int)} {z v : Int}, (ml.Pairwise fun p q => p.1 ≠ q.1) → (putM ml z v).Pairwise fun p q => p.1 ≠ q.1
  | [], z, v, h => by simp [putM]
  | (y, w) :: r, z, v, h => by
    have h := List.pairwise_cons.mp h
    unfold putM
    by_cases e : y = z
    · rw [if_pos e]
      exact List.pairwise_cons.mpr ⟨h.1, h.2⟩
    · rw [if_neg e]
      refine List.pairwise_cons.mpr ⟨fun p hp => ?_, putM_nd h.2⟩
      rcases putM_fst hp with rfl | hp
      · exact e
      · exact h.1 p hp
def eK (p : Int × Int) : Key × D := (Sum.inl p.1, D.int p.2)
theorem vK_eM {ml : List (Int × Int)} {z : Int} : vK (ml.map eK) (Sum.inl z : Key) = (ml.lookup z).map D.int := by
  induction ml with
  | nil => rfl
  | cons p r ih =>
    rw [List.map_cons, vK_cons, List.lookup_cons]
    by_cases e : z = p.1
    · subst e; simp [eK]
    · have : (z == p.1) = false := by simpa using e
      rw [this, if_neg (show ¬ (eK p).1 = (Sum.inl z : Key) from fun q => e (Sum.inl.inj q).symm)]
      exact ih
theorem pK_eM {ml : List (Int × Int)} (nd : ml.Pairwise fun p q => p.1 ≠ q.1) {z v : Int} : pK (ml.map eK) (Sum.inl z : Key) (D.int v) = (putM ml z v).map eK := by
  induction ml with
  | nil => rfl
  | cons p r ih =>
    obtain ⟨y, w⟩ := p
    have nd := List.pairwise_cons.mp nd
    have ih := ih nd.2
    unfold putM
    unfold pK at ih ⊢
    by_cases e : y = z
    · subst e
      rw [if_pos rfl, if_pos (by simp [eK])]
      rw [List.map_cons, List.map_cons, List.map_cons]
      congr 1
      · simp [eK]
      · rw [List.map_map]
        refine List.map_congr_left fun q hq => ?_
        have : q.1 ≠ y := fun z => nd.1 q hq z.symm
        simp [eK, this]
    · rw [if_neg e]
      have e0 : ¬ ((eK (y, w)).1 = (Sum.inl z : Key)) := fun q => e (Sum.inl.inj q)
      show _ = eK (y, w) :: (putM r z v).map eK
      rw [← ih]
      simp only [List.map_cons, List.any_cons, decide_eq_false e0, Bool.false_or, if_neg e0]
      split <;> rfl
theorem vM_put {ml : List (Int × Int)} {z v : Int} : vM (putM ml z v) = fun x => if x = z then v else vM ml x := by
  funext x
  unfold vM
  rw [putM_look]
  split <;> rfl
theorem mdl_cnt {t : T} {ml : List (Int × Int)} (r : Right t) (h : Mdl t ml) : Cnt t (vM ml) := by
  refine ⟨fun z _ _ => ?_, fun z v h0 h1 => ?_⟩
  · unfold vM
    cases e : ml.lookup z with
    | none => exact Int.le_refl _
    | some v => exact (h.ok _ ((look_mem h.nd).mp e)).2.2.1
  · constructor
    · intro hv
      obtain ⟨i, hi, hk, hc⟩ := id hv
      have c1 := r.c1 i hi
      have := (look_mem h.nd).mpr ((h.fit z v (by omega)).mpr ⟨h0, h1, hv⟩)
      unfold vM
      rw [this]
      exact ⟨rfl, by omega⟩
    · rintro ⟨e, hv⟩
      unfold vM at e
      cases q : ml.lookup z with
      | none => rw [q] at e; simp at e; omega
      | some w =>
        rw [q] at e
        simp at e
        subst e
        exact ((h.fit z v (by omega)).mp ((look_mem h.nd).mp q)).2.2
theorem cnt_mdl {t : T} {ml : List (Int × Int)} (nd : ml.Pairwise fun p q => p.1 ≠ q.1) (ok : ∀ p ∈ ml, 0 ≤ p.1 ∧ p.1 < 256 ∧ 0 ≤ p.2 ∧ p.2 ≤ 1000000) (h : Cnt t (vM ml)) : Mdl t ml := by
  refine ⟨nd, ok, fun z v hv => ?_⟩
  constructor
  · intro hm
    have o := ok _ hm
    refine ⟨o.1, o.2.1, (h.has z v o.1 o.2.1).mpr ⟨?_, by omega⟩⟩
    unfold vM
    rw [(look_mem nd).mpr hm]; rfl
  · rintro ⟨h0, h1, hh⟩
    obtain ⟨e, _⟩ := (h.has z v h0 h1).mp hh
    refine (look_mem nd).mp ?_
    unfold vM at e
    cases q : ml.lookup z with
    | none => rw [q] at e; simp at e; omega
    | some w => rw [q] at e; simp at e; rw [e]
theorem bmp_put {ml : List (Int × Int)} {z δ : Int} : bmp (vM ml) z δ = vM (putM ml z (vM ml z + δ)) := by
  rw [vM_put]
  funext x
  unfold bmp
  by_cases e : x = z
  · rw [if_pos e, if_pos e, e]
  · rw [if_neg e, if_neg e]
theorem un_step {t t' : T} {ml : List (Int × Int)} {z v : Int} (r : Right t) (h : Mdl t ml) (e : ml.lookup z = some v) (hv : 0 < v) (u : Uncounted t z t') : Right t' ∧ Mdl t' (putM ml z (v - 1)) ∧ t'.n ≤ t.n ∧ (putM ml z (v - 1)).length = ml.length := by
  have o := h.ok _ ((look_mem h.nd).mp e)
  obtain ⟨r', c', n'⟩ := uncounted_cnt r (mdl_cnt r h) o.1 o.2.1 u
  have ev : vM ml z = v := by unfold vM; rw [e]; rfl
  rw [bmp_put, ev] at c'
  refine ⟨r', cnt_mdl (putM_nd h.nd) (fun p hp => ?_) c', n', putM_len_in e⟩
  rcases putM_fst hp with rfl | hp
  · simp only at o ⊢; omega
  · exact h.ok p hp
theorem co_step {t t' : T} {ml : List (Int × Int)} {z : Int} (r : Right t) (h : Mdl t ml) (z0 : 0 ≤ z) (z1 : z < 256) (hv : vM ml z < 1000000) (u : Counted t z t') : Right t' ∧ Mdl t' (putM ml z (vM ml z + 1)) ∧ t'.n ≤ t.n + 2 ∧ (putM ml z (vM ml z + 1)).length ≤ ml.length + 1 := by
  have c := mdl_cnt r h
  obtain ⟨r', c', n'⟩ := counted_cnt r c z0 z1 hv u
  have p0 := c.pos z z0 z1
  rw [bmp_put] at c'
  refine ⟨r', cnt_mdl (putM_nd h.nd) (fun p hp => ?_) c', n', putM_len⟩
  rcases putM_fst hp with rfl | hp
  · simp only; omega
  · exact h.ok p hp
theorem there_at {t : T} {ml : List (Int × Int)} {z v : Int} (h : Mdl t ml) (e : ml.lookup z = some v) (hv : 0 < v) : 0 ≤ z ∧ z < 256 ∧ ∃ i : Nat, i < t.n ∧ t.k i = z := by
  obtain ⟨a, b, i, hi, hk, _⟩ := (h.fit z v hv).mp ((look_mem h.nd).mp e)
  exact ⟨a, b, i, hi, hk⟩
theorem look_of_pos {ml : List (Int × Int)} {z : Int} (h : 0 < vM ml z) : ml.lookup z = some (vM ml z) := by
  unfold vM at h ⊢
  cases e : ml.lookup z with
  | none => rw [e] at h; simp at h
  | some v => rfl
theorem vM_top {t : T} {ml : List (Int × Int)} (h : Mdl t ml) (z : Int) : 0 ≤ vM ml z ∧ vM ml z ≤ 1000000 := by
  unfold vM
  cases e : ml.lookup z with
  | none => simp
  | some v => have := h.ok _ ((look_mem h.nd).mp e); simpa using ⟨this.2.2.1, this.2.2.2⟩

/-! ## the counts as a list -/
theorem asc_eq : ∀ {l m : List (Int × Int)}, (l.Pairwise fun p q => p.1 < q.1) → (m.Pairwise fun p q => p.1 < q.1) → (∀ p, p ∈ l ↔ p ∈ m) → l = m
  | [], [], _, _, _ => rfl
  | [], q :: m, _, _, h => by have := (h q).mpr (List.mem_cons_self ..); simp at this
  | p :: l, [], _, _, h => by have := (h p).mp (List.mem_cons_self ..); simp at this
  | p :: l, q :: m, hl, hm, h => by
    have hl := List.pairwise_cons.mp hl
    have hm := List.pairwise_cons.mp hm
    have e : p = q := by
      rcases List.mem_cons.mp ((h p).mp (List.mem_cons_self ..)) with e | e
      · exact e
      · rcases List.mem_cons.mp ((h q).mpr (List.mem_cons_self ..)) with e2 | e2
        · exact e2.symm
        · have := hm.1 p e; have := hl.1 q e2; omega
    subst e
    congr 1
    refine asc_eq hl.2 hm.2 fun x => ?_
    constructor
    · intro hx
      rcases List.mem_cons.mp ((h x).mp (List.mem_cons_of_mem _ hx)) with e | e
      · subst e; have := hl.1 x hx; omega
      · exact e
    · intro hx
      rcases List.mem_cons.mp ((h x).mpr (List.mem_cons_of_mem _ hx)) with e | e
      · subst e; have := hm.1 x hx; omega
      · exact e
theorem CL_uniq {t : T} {l m : List (Int × Int)} (a : CL t l) (b : CL t m) : l = m :=
  asc_eq a.asc b.asc fun p => by rw [show p = (p.1, p.2) from rfl, a.mem, b.mem]
def lts (t : T) : List Nat := (List.range t.n).filter fun j => decide (t.k j ≠ -1) && decide (t.k j ≠ 256)
theorem lts_mem {t : T} {j : Nat} : j ∈ lts t ↔ j < t.n ∧ t.k j ≠ -1 ∧ t.k j ≠ 256 := by
  unfold lts; rw [List.mem_filter, List.mem_range]; simp
theorem CL_snd {t : T} {l : List (Int × Int)} (r : Right t) (c : CL t l) : (1 :: l.map Prod.snd).Perm (av t 0) := by
  have p1 : l.Perm ((lts t).map fun j => (t.k j, t.c j)) := by
    refine (List.perm_ext_iff_of_nodup ?_ ?_).mpr fun p => ?_
    · rw [List.nodup_iff_pairwise_ne]
      exact c.asc.imp fun {a b} h e => by rw [e] at h; omega
    · rw [List.nodup_iff_pairwise_ne, List.pairwise_map]
      refine List.Pairwise.imp_of_mem ?_ ((List.nodup_range (n := t.n)).filter _)
      intro a b ha hb ne e
      have ha := lts_mem.mp ha
      have hb := lts_mem.mp hb
      have e1 : t.k a = t.k b := congrArg Prod.fst e
      have ka := r.mid.kd a ha.1
      exact ne (r.mid.dist a b ha.1 hb.1 (by omega) e1)
    · rw [show p = (p.1, p.2) from rfl, c.mem, List.mem_map]
      constructor
      · rintro ⟨a, b, i, hi, hk, hc⟩
        exact ⟨i, lts_mem.mpr ⟨hi, by omega, by omega⟩, by rw [hk, hc]⟩
      · rintro ⟨i, hi, e⟩
        have hi := lts_mem.mp hi
        have kd := r.mid.kd i hi.1
        have e1 := congrArg Prod.fst e
        have e2 := congrArg Prod.snd e
        simp only at e1 e2
        exact ⟨by omega, by omega, i, hi.1, e1, e2⟩
  have p2 : (l.map Prod.snd).Perm ((lts t).map t.c) := by
    have := p1.map Prod.snd
    rwa [List.map_map] at this
  obtain ⟨m, hm, k1, k2⟩ := r.esc
  have p3 : ((List.range t.n).filter fun x => decide (t.k x ≠ -1)).Perm (m :: lts t) := by
    refine (List.perm_ext_iff_of_nodup ((List.nodup_range (n := t.n)).filter _) (List.nodup_cons.mpr ⟨fun q => ?_, (List.nodup_range (n := t.n)).filter _⟩)).mpr fun x => ?_
    · exact (lts_mem.mp q).2.2 k1
    · rw [List.mem_filter, List.mem_range, List.mem_cons]
      constructor
      · rintro ⟨a, b⟩
        have b := of_decide_eq_true b
        by_cases e : t.k x = 256
        · exact .inl (r.mid.dist x m a hm (by omega) (e.trans k1.symm))
        · exact .inr (lts_mem.mpr ⟨a, b, e⟩)
      · rintro (e | e)
        · subst e; exact ⟨hm, decide_eq_true (by omega)⟩
        · have := lts_mem.mp e; exact ⟨this.1, decide_eq_true this.2.1⟩
  rw [av_zero]
  have p4 := p3.map t.c
  rw [List.map_cons, k2] at p4
  exact (p2.cons 1).trans p4.symm
theorem CL_mdl {t : T} {ml l : List (Int × Int)} (r : Right t) (h : Mdl t ml) (ml1 : ml.length ≤ 1000) (pm : l.Perm (ml.filter fun p => decide (0 < p.2))) (pw : l.Pairwise fun p q => p.1 * 1048576 + p.2 ≤ q.1 * 1048576 + q.2) : CL t l ∧ CLo l := by
  have mem : ∀ p, p ∈ l ↔ p ∈ ml ∧ 0 < p.2 := fun p => by
    rw [pm.mem_iff, List.mem_filter, decide_eq_true_iff]
  have nd : l.Pairwise fun p q => p.1 ≠ q.1 := pm.symm.pairwise (R := fun p q => p.1 ≠ q.1) (h.nd.filter _) (fun {a b} ne => Ne.symm ne)
  have asc : l.Pairwise fun p q => p.1 < q.1 := by
    refine List.Pairwise.imp_of_mem ?_ (List.pairwise_and_iff.mpr ⟨nd, pw⟩)
    intro p q hp hq e
    have a := h.ok p ((mem p).mp hp).1
    have b := h.ok q ((mem q).mp hq).1
    have := e.1
    have := e.2
    omega
  have le : l.length ≤ ml.length := by rw [pm.length_eq]; exact List.length_filter_le ..
  refine ⟨⟨asc, fun z v => ?_⟩, ⟨asc, fun p hp => ?_, ?_⟩⟩
  · rw [mem]
    constructor
    · rintro ⟨a, b⟩
      have := (h.fit z v b).mp a
      exact ⟨this.1, by omega, this.2.2⟩
    · rintro ⟨a, b, i, hi, hk, hc⟩
      have kd := r.mid.kd i hi
      have c1 := r.c1 i hi
      exact ⟨(h.fit z v (by omega)).mpr ⟨a, by omega, i, hi, hk, hc⟩, by simp only; omega⟩
  · have a := (mem p).mp hp
    have := h.ok p a.1
    omega
  · exact Nat.le_trans le ml1
/-- the model of a row that stands -/
def mdl0 (t : T) (n : Nat) : List (Int × Int) := ((List.range n).filter fun j => decide (0 ≤ t.k j ∧ t.k j < 256)).map fun j => (t.k j, t.c j)
theorem mdl0_nd {t : T} (r : Right t) {n : Nat} (hn : n ≤ t.n) : (mdl0 t n).Pairwise fun p q => p.1 ≠ q.1 := by
  unfold mdl0
  rw [List.pairwise_map]
  refine List.Pairwise.imp_of_mem ?_ ((List.nodup_range (n := n)).filter _)
  intro a b ha hb ne e
  obtain ⟨a1, a2⟩ := List.mem_filter.mp ha
  obtain ⟨b1, b2⟩ := List.mem_filter.mp hb
  have a1 := List.mem_range.mp a1
  have b1 := List.mem_range.mp b1
  have a2 := of_decide_eq_true a2
  simp only at e
  exact ne (r.mid.dist a b (by omega) (by omega) a2.1 e)
theorem mdl0_succ {t : T} (r : Right t) {n : Nat} (hn : n < t.n) (h : 0 ≤ t.k n ∧ t.k n < 256) : mdl0 t (n + 1) = putM (mdl0 t n) (t.k n) (t.c n) := by
  have e : mdl0 t (n + 1) = mdl0 t n ++ [(t.k n, t.c n)] := by
    unfold mdl0
    rw [List.range_succ, List.filter_append, List.map_append]
    simp [h]
  rw [e]
  have nin : ∀ p ∈ mdl0 t n, p.1 ≠ t.k n := fun p hp q => by
    obtain ⟨j, hj, rfl⟩ := List.mem_map.mp hp
    obtain ⟨a1, a2⟩ := List.mem_filter.mp hj
    have a1 := List.mem_range.mp a1
    have := r.mid.dist j n (by omega) hn (of_decide_eq_true a2).1 q
    omega
  generalize mdl0 t n = l at nin
  induction l with
  | nil => rfl
  | cons p l ih =>
    obtain ⟨y, w⟩ := p
    unfold putM
    rw [if_neg (nin _ (List.mem_cons_self ..)), List.cons_append, ih fun q hq => nin q (List.mem_cons_of_mem _ hq)]
theorem mdl0_skip {t : T} {n : Nat} (h : ¬ (0 ≤ t.k n ∧ t.k n < 256)) : mdl0 t (n + 1) = mdl0 t n := by
  unfold mdl0
  rw [List.range_succ, List.filter_append, List.map_append]
  simp [h]
theorem mdl0_ok {t : T} (r : Right t) : Mdl t (mdl0 t t.n) := by
  refine ⟨mdl0_nd r (Nat.le_refl _), fun p hp => ?_, fun z v hv => ?_⟩
  · obtain ⟨j, hj, rfl⟩ := List.mem_map.mp hp
    obtain ⟨a1, a2⟩ := List.mem_filter.mp hj
    have a1 := List.mem_range.mp a1
    have a2 := of_decide_eq_true a2
    have := r.c1 j a1
    have := r.top j a1 (by omega)
    exact ⟨a2.1, a2.2, by simp only; omega, by simp only; omega⟩
  · unfold mdl0
    rw [List.mem_map]
    constructor
    · rintro ⟨j, hj, e⟩
      cases e
      obtain ⟨a1, a2⟩ := List.mem_filter.mp hj
      have a1 := List.mem_range.mp a1
      have a2 := of_decide_eq_true a2
      exact ⟨a2.1, a2.2, j, a1, rfl, rfl⟩
    · rintro ⟨h0, h1, i, hi, hk, hc⟩
      exact ⟨i, List.mem_filter.mpr ⟨List.mem_range.mpr hi, decide_eq_true (by omega)⟩, by rw [hk, hc]⟩
end LS
namespace LS
open PySem PySem.Spec PyProof.Rows L2 DL
/-! ## the making, step by step -/
theorem Mk_stp {N d : Nat} {t : T} {ls : List (Int × Int)} (m : Mk N t d ls) (h : 2 * d + 1 < t.n ∨ ls ≠ []) : ∃ t' d' ls', stp (t, d, ls) = (t', d', ls') ∧ Mk N t' d' ls' ∧ t'.n = t.n + 1 := by
  cases ls with
  | nil =>
    have h2 : 2 * d + 1 < t.n := h.resolve_right (by simp)
    exact ⟨_, _, _, rfl, m.pair h2 (by simp), rfl⟩
  | cons p ls =>
    obtain ⟨v, z⟩ := p
    by_cases c : 2 * d + 1 < t.n ∧ psum t d < v
    · refine ⟨_, _, _, by simp only [stp]; rw [if_pos c], m.pair c.1 fun q hq => ?_, rfl⟩
      rcases List.mem_cons.mp hq with rfl | hq
      · simp only; omega
      · have := (List.pairwise_cons.mp m.lsrt).1 q hq
        simp only at this; omega
    · exact ⟨_, _, _, by simp only [stp]; rw [if_neg c], m.leaf fun h2 => by omega, rfl⟩
theorem itr_Mk {N : Nat} {ls0 : List (Int × Int)} (m0 : Mk N T0 0 ls0) : ∀ j, j + 1 ≤ 2 * N → ∃ t d ls, itr j (T0, 0, ls0) = (t, d, ls) ∧ Mk N t d ls ∧ t.n = j
  | 0, _ => ⟨_, _, _, rfl, m0, rfl⟩
  | j + 1, hj => by
    obtain ⟨t, d, ls, e, m, n⟩ := itr_Mk m0 j (by omega)
    have num := m.num
    have h : 2 * d + 1 < t.n ∨ ls ≠ [] := by
      cases ls with
      | nil => left; simp at num; omega
      | cons p r => right; simp
    obtain ⟨t', d', ls', e', m', n'⟩ := Mk_stp m h
    exact ⟨t', d', ls', by show stp (itr j (T0, 0, ls0)) = _; rw [e]; exact e', m', by omega⟩
theorem mk_going {N d : Nat} {t : T} {ls : List (Int × Int)} (m : Mk N t d ls) (h : t.n + 1 < 2 * N) : 2 * d + 1 < t.n ∨ ls ≠ [] := by
  have num := m.num
  cases ls with
  | nil => left; simp at num; omega
  | cons p r => right; simp
/-! ## what stands in it -/
def Cont (ls0 : List (Int × Int)) (s : MkS) : Prop := ∀ z v, 0 ≤ z → (Has s.1 z v ∨ (v, z) ∈ s.2.2 ↔ (v, z) ∈ ls0)
theorem has_push {t : T} {z v z' v' : Int} : Has (push t z v) z' v' ↔ Has t z' v' ∨ (z' = z ∧ v' = v) := by
  constructor
  · rintro ⟨i, hi, hk, hc⟩
    have hi : i < t.n + 1 := hi
    by_cases e : i = t.n
    · subst e
      rw [push_kn] at hk
      rw [push_cn] at hc
      exact .inr ⟨hk.symm, hc.symm⟩
    · rw [push_k e] at hk
      rw [push_c e] at hc
      exact .inl ⟨i, by omega, hk, hc⟩
  · rintro (⟨i, hi, hk, hc⟩ | ⟨rfl, rfl⟩)
    · exact ⟨i, by show i < t.n + 1; omega, by rw [push_k (by omega)]; exact hk, by rw [push_c (by omega)]; exact hc⟩
    · exact ⟨t.n, by show t.n < t.n + 1; omega, push_kn, push_cn⟩
theorem has_hang {t : T} {d : Nat} {q z v : Int} : Has (hang2 t d q) z v ↔ Has t z v := Iff.rfl
theorem Cont.stp {ls0 : List (Int × Int)} {s : MkS} (h : Cont ls0 s) : Cont ls0 (LS.stp s) := by
  obtain ⟨t, d, ls⟩ := s
  have pair : ∀ z v, 0 ≤ z → (Has (hang2 (push t (-1) (psum t d)) d t.n) z v ↔ Has t z v) := fun z v h0 => by
    rw [has_hang, has_push]
    constructor
    · rintro (h | ⟨h, _⟩)
      · exact h
      · omega
    · exact .inl
  cases ls with
  | nil =>
    intro z v h0
    show Has (hang2 (push t (-1) (psum t d)) d t.n) z v ∨ _ ↔ _
    rw [pair z v h0]
    exact h z v h0
  | cons p ls =>
    obtain ⟨v, z⟩ := p
    intro z' v' h0
    have hh := h z' v' h0
    by_cases c : 2 * d + 1 < t.n ∧ psum t d < v
    · simp only [LS.stp]
      rw [if_pos c]
      show Has (hang2 (push t (-1) (psum t d)) d t.n) z' v' ∨ _ ↔ _
      rw [pair z' v' h0]; exact hh
    · simp only [LS.stp]
      rw [if_neg c]
      show Has (push t z v) z' v' ∨ (v', z') ∈ ls ↔ _
      rw [has_push, ← hh]
      show _ ↔ Has t z' v' ∨ (v', z') ∈ (v, z) :: ls
      rw [List.mem_cons]
      constructor
      · rintro ((a | ⟨a, b⟩) | a)
        · exact .inl a
        · exact .inr (.inl (by rw [a, b]))
        · exact .inr (.inr a)
      · rintro (a | a | a)
        · exact .inl (.inl a)
        · cases a; exact .inl (.inr ⟨rfl, rfl⟩)
        · exact .inr a
theorem cont_itr {ls0 : List (Int × Int)} : ∀ j, Cont ls0 (itr j (T0, 0, ls0))
  | 0 => fun z v _ => ⟨fun h => by
      rcases h with ⟨i, hi, _⟩ | h
      · exact absurd hi (Nat.not_lt_zero _)
      · exact h, fun h => .inr h⟩
  | j + 1 => (cont_itr j).stp
/-! ## one sorted list -/
theorem perm_sorted {α : Type} (f : α → Int) : ∀ {a b : List α}, a.Perm b → a.Pairwise (fun x y => f x ≤ f y) → b.Pairwise (fun x y => f x ≤ f y) → (∀ x ∈ a, ∀ y ∈ a, f x = f y → x = y) → a = b
  | [], b, p, _, _, _ => (List.Perm.eq_nil p.symm).symm
  | x :: a, [], p, _, _, _ => by have := p.length_eq; simp at this
  | x :: a, y :: b, p, ha, hb, inj => by
    have ha' := List.pairwise_cons.mp ha
    have hb' := List.pairwise_cons.mp hb
    have e : x = y := by
      have h1 : f y ≤ f x := by
        rcases List.mem_cons.mp (p.mem_iff.mp (List.mem_cons_self ..)) with h | h
        · rw [h]; exact Int.le_refl _
        · exact hb'.1 x h
      have hy : y ∈ x :: a := p.mem_iff.mpr (List.mem_cons_self ..)
      have h2 : f x ≤ f y := by
        rcases List.mem_cons.mp hy with h | h
        · rw [h]; exact Int.le_refl _
        · exact ha'.1 y h
      exact inj x (List.mem_cons_self ..) y hy (by omega)
    subst e
    rw [perm_sorted f p.cons_inv ha'.2 hb'.2 fun u hu v hv => inj u (List.mem_cons_of_mem _ hu) v (List.mem_cons_of_mem _ hv)]
theorem sorted_uniq {l a b : List (Int × Int)} (c : CLo l) (ha : SortedOf l a) (hb : SortedOf l b) : a = b := by
  refine perm_sorted (fun p => p.1 * 1048576 + p.2) (ha.1.trans hb.1.symm) ha.2 hb.2 fun x hx y hy e => ?_
  have bd : ∀ p ∈ a, 0 ≤ p.2 ∧ p.2 ≤ 256 := fun p hp => by
    rcases List.mem_append.mp (ha.1.mem_iff.mp hp) with h | h
    · obtain ⟨q, hq, rfl⟩ := List.mem_map.mp h
      have := c.ok q hq
      simp only [sw]; omega
    · rw [List.mem_singleton] at h; subst h; decide
  have b1 := bd x hx
  have b2 := bd y hy
  obtain ⟨x1, x2⟩ := x
  obtain ⟨y1, y2⟩ := y
  simp only at e b1 b2
  have e1 : x1 = y1 := by omega
  have e2 : x2 = y2 := by omega
  rw [e1, e2]
/-! ## faults -/
theorem fault_none : ∀ {l : List (Int × Int)} {b : Int} {i : Nat}, fault b i l = none ↔ (l.Pairwise fun p q => p.1 < q.1) ∧ (∀ p ∈ l, b < p.1) ∧ ∀ p ∈ l, 0 ≤ p.1 ∧ p.1 < 256 ∧ 1 ≤ p.2 ∧ p.2 ≤ 1000000
  | [], b, i => by simp [fault]
  | (z, v) :: r, b, i => by
    unfold fault
    by_cases h1 : 0 ≤ z ∧ z < 256
    · rw [if_neg (fun h => h h1)]
      by_cases h2 : z ≤ b ∨ ¬ (1 ≤ v ∧ v ≤ 1000000)
      · rw [if_pos h2]
        constructor
        · intro h; cases h
        · rintro ⟨_, hb, ho⟩
          have := hb _ (List.mem_cons_self ..)
          have := ho _ (List.mem_cons_self ..)
          simp only at *
          omega
      · rw [if_neg h2, fault_none]
        constructor
        · rintro ⟨p1, p2, p3⟩
          refine ⟨List.pairwise_cons.mpr ⟨p2, p1⟩, fun p hp => ?_, fun p hp => ?_⟩
          · rcases List.mem_cons.mp hp with rfl | hp
            · simp only; omega
            · have := p2 p hp; omega
          · rcases List.mem_cons.mp hp with rfl | hp
            · simp only; omega
            · exact p3 p hp
        · rintro ⟨p1, p2, p3⟩
          have p1 := List.pairwise_cons.mp p1
          exact ⟨p1.2, p1.1, fun p hp => p3 p (List.mem_cons_of_mem _ hp)⟩
    · rw [if_pos h1]
      constructor
      · intro h; cases h
      · rintro ⟨_, _, ho⟩
        have := ho _ (List.mem_cons_self ..)
        simp only at this
        exact absurd ⟨this.1, this.2.1⟩ h1
theorem fault_clo {l : List (Int × Int)} (h : l.length ≤ 1000) : fault (-1) 0 l = none ↔ CLo l := by
  rw [fault_none]
  constructor
  · rintro ⟨a, _, c⟩; exact ⟨a, c, h⟩
  · intro c
    exact ⟨c.asc, fun p hp => by have := c.ok p hp; omega, c.ok⟩
end LS
namespace LS
open PySem PySem.Spec PyProof.Rows L2 DL
abbrev DOk (P : DSp) (w : DS) (n : Nat) : Prop := ∀ ds cs (Φ : D → Cs → Prop) (Ψ : Exn → Cs → Prop), P ds cs Φ Ψ → w { nx := fun _ cs' => Φ .non cs', rt := Φ, ex := fun e _ cs' => Ψ e cs' } (startD n ds) cs
theorem cut {a b : DS} {D : DEnds} {ρ : EnvD} {cs : Cs} (R : EnvD → Cs → Prop) (h1 : ∀ B : EnvD → Cs → Prop, (∀ ρ' cs', R ρ' cs' → B ρ' cs') → a { D with nx := B } ρ cs) (h2 : ∀ ρ' cs', R ρ' cs' → b D ρ' cs') : dSeq a b D ρ cs := h1 _ h2
theorem atI_ok {α : Type} {xs : List α} {i : Int} (h0 : 0 ≤ i) (h1 : i < xs.length) : ∃ x, xs[i.toNat]? = some x ∧ atI xs i = some x := by
  have h : i.toNat < xs.length := by omega
  refine ⟨xs[i.toNat], List.getElem?_eq_getElem h, ?_⟩
  have := atI_nat (List.getElem?_eq_getElem h)
  rwa [Int.toNat_of_nonneg h0] at this
theorem atI_map {α β : Type} {f : α → β} {xs : List α} {i : Int} : atI (xs.map f) i = (atI xs i).map f := by
  unfold atI
  rw [List.length_map]
  cases ixN xs.length i with
  | none => rfl
  | some j => simp
theorem tab_length {n : Nat} {f : Nat → Int} : (tab n f).length = n := by simp [tab]
theorem tab_get {n i : Nat} {f : Nat → Int} (h : i < n) : (tab n f)[i]? = some (.int (f i)) := by
  unfold tab; rw [List.getElem?_map, List.getElem?_range h]; rfl
theorem tab_at {n i : Nat} {f : Nat → Int} (h : i < n) : atI (tab n f) (i : Int) = some (.int (f i)) := atI_nat (tab_get h)
theorem tab_atI {n : Nat} {i : Int} {f : Nat → Int} (h0 : 0 ≤ i) (h : i < n) : atI (tab n f) i = some (.int (f i.toNat)) := by
  have := tab_at (f := f) (show i.toNat < n by omega)
  rwa [Int.toNat_of_nonneg h0] at this
theorem tab_congr {n : Nat} {f g : Nat → Int} (h : ∀ i, i < n → f i = g i) : tab n f = tab n g := by
  unfold tab
  apply List.map_congr_left
  intro i hi
  rw [h i (List.mem_range.mp hi)]
theorem tab_set {n j : Nat} {f : Nat → Int} {v : Int} : (tab n f).set j (.int v) = tab n (fun i => if i = j then v else f i) := by
  apply List.ext_getElem?
  intro i
  by_cases hi : i < n
  · rw [tab_get hi]
    by_cases e : j = i
    · subst e; rw [List.getElem?_set_self (by rw [tab_length]; exact hi), if_pos rfl]
    · rw [List.getElem?_set_ne e, tab_get hi, if_neg (Ne.symm e)]
  · rw [List.getElem?_eq_none (by rw [List.length_set, tab_length]; omega), List.getElem?_eq_none (by rw [tab_length]; omega)]
theorem ixN_int {n : Nat} {i : Int} (h0 : 0 ≤ i) (h : i < n) : ixN n i = some i.toNat := by unfold ixN; rw [if_pos h0, if_pos h]

theorem Src.set {cs : Cs} {a : Addr} {x y : Int} (hx : 0 ≤ x) (hy : 0 ≤ y) (hy2 : y < 2147483647) : Src (setc cs a (.lst [.int x, .int y])) a := ⟨x, y, hx, hy, hy2, setc_same⟩
theorem Only.set {cs : Cs} {a : Addr} {c : Ct} : Only a cs (setc cs a c) := fun b h => setc_ne h
theorem h__law_take (cl : Str → Addr) : DOk (P__law_take cl) (w__law_take cl) 3 := by
  rintro ds cs Φ Ψ ⟨a, top, rfl, ⟨x, y, hx, hy, hy2, e⟩, ht, ht2, q⟩
  simp [-List.lookup_eq_none_iff, dSeq, dIf, dB, dOp, dVar, dC, dUn, dAsg, dCB, dCons, dNil, dgName, dgSub, dRet, dRetN, dDrop, dNext, dBreak, dCont, dNever, dIfE, dAnd, dOr, dNot, dTru, dAndV, dOrV, dNotV, dTup, dLst, nF, nC, dFld, dSetF, dCall, dMeth, dMake, dPar, dPar3, dgTup, dgCons, dgNil, dAug, dAugS2, dAugF, dBM, dBM0, dChain, dYes, dSl, dPart, dNoPart, wSl, wLt, wLe, wGt, wGe, wI, wI0, wAdd, wSub, wMod, wDiv, wPow, wMul, wEq, wEqB, wNe, wIsN, wIsB, wLen, wInt, wMax2, wMin2, wI2, wIxA, wSet, wGetC, wIp, wTupleOf, wStrI, wIsi, wIn, wInT, wAppend, wPop, wInsert, wLM, wGet, dkey, startD, tru, dty, lq, dRevL, putD, CDiv, CMul, CPow, setc_same, setc_setc, w__law_take, e, atI, ixN, ht, ht2]
  split
  · exact q _ _ (Src.set (Int.ediv_nonneg hx (by omega)) hy hy2) Only.set (Int.emod_nonneg _ (by omega)) (Int.emod_lt_of_pos _ ht)
  · refine ⟨by omega, q _ _ (Src.set hx (Int.emod_nonneg _ (by omega)) (Int.emod_lt_of_pos _ (by omega))) Only.set (Int.emod_nonneg _ (by omega)) (Int.emod_lt_of_pos _ ht)⟩
theorem h__law_pool (cl : Str → Addr) : DOk (P__law_pool cl) (w__law_pool cl) 5 := by
  rintro ds cs Φ Ψ ⟨ns, k, rfl, hk, hk2, hl, q⟩
  unfold w__law_pool
  refine cut (fun ρ' cs' => ρ' = [some (.rl (ns.map D.int)), some (.int k), some (.int 0), none, none] ∧ cs = cs') (fun B hB => ?_) ?_
  · simp [-List.lookup_eq_none_iff, dSeq, dIf, dB, dOp, dVar, dC, dUn, dAsg, dCB, dCons, dNil, dgName, dgSub, dRet, dRetN, dDrop, dNext, dBreak, dCont, dNever, dIfE, dAnd, dOr, dNot, dTru, dAndV, dOrV, dNotV, dTup, dLst, nF, nC, dFld, dSetF, dCall, dMeth, dMake, dPar, dPar3, dgTup, dgCons, dgNil, dAug, dAugS2, dAugF, dBM, dBM0, dChain, dYes, dSl, dPart, dNoPart, wSl, wLt, wLe, wGt, wGe, wI, wI0, wAdd, wSub, wMod, wDiv, wPow, wMul, wEq, wEqB, wNe, wIsN, wIsB, wLen, wInt, wMax2, wMin2, wI2, wIxA, wSet, wGetC, wIp, wTupleOf, wStrI, wIsi, wIn, wInT, wAppend, wPop, wInsert, wLM, wGet, dkey, startD, tru, dty, lq, dRevL, putD, CDiv, CMul, CPow, setc_same, setc_setc]; exact hB _ _ ⟨rfl, rfl⟩
  rintro _ _ ⟨rfl, rfl⟩
  refine cut (fun ρ' cs' => ∃ c : Int, ρ' = [some (.rl (ns.map D.int)), some (.int k), some (.int c), none, none] ∧ cs = cs') (fun B hB => ?_) ?_
  · simp [-List.lookup_eq_none_iff, dSeq, dIf, dB, dOp, dVar, dC, dUn, dAsg, dCB, dCons, dNil, dgName, dgSub, dRet, dRetN, dDrop, dNext, dBreak, dCont, dNever, dIfE, dAnd, dOr, dNot, dTru, dAndV, dOrV, dNotV, dTup, dLst, nF, nC, dFld, dSetF, dCall, dMeth, dMake, dPar, dPar3, dgTup, dgCons, dgNil, dAug, dAugS2, dAugF, dBM, dBM0, dChain, dYes, dSl, dPart, dNoPart, wSl, wLt, wLe, wGt, wGe, wI, wI0, wAdd, wSub, wMod, wDiv, wPow, wMul, wEq, wEqB, wNe, wIsN, wIsB, wLen, wInt, wMax2, wMin2, wI2, wIxA, wSet, wGetC, wIp, wTupleOf, wStrI, wIsi, wIn, wInT, wAppend, wPop, wInsert, wLM, wGet, dkey, startD, tru, dty, lq, dRevL, putD, CDiv, CMul, CPow, setc_same, setc_setc, atI_map]
    split
    · rename_i h
      obtain ⟨x, _, e⟩ := atI_ok (xs := ns) hk h
      exact ⟨_, ⟨x, e, rfl⟩, hB _ _ ⟨x, rfl, rfl⟩⟩
    · split
      · exact hB _ _ ⟨0, rfl, rfl⟩
      · rename_i h1 h2
        obtain ⟨x, _, e⟩ := atI_ok (xs := ns) (i := 0) (by omega) (by cases ns with | nil => exact absurd rfl h2 | cons _ _ => simp)
        exact ⟨_, ⟨x, e, rfl⟩, hB _ _ ⟨x, rfl, rfl⟩⟩
  rintro _ _ ⟨c, rfl, rfl⟩
  simp [-List.lookup_eq_none_iff, dSeq, dIf, dB, dOp, dVar, dC, dUn, dAsg, dCB, dCons, dNil, dgName, dgSub, dRet, dRetN, dDrop, dNext, dBreak, dCont, dNever, dIfE, dAnd, dOr, dNot, dTru, dAndV, dOrV, dNotV, dTup, dLst, nF, nC, dFld, dSetF, dCall, dMeth, dMake, dPar, dPar3, dgTup, dgCons, dgNil, dAug, dAugS2, dAugF, dBM, dBM0, dChain, dYes, dSl, dPart, dNoPart, wSl, wLt, wLe, wGt, wGe, wI, wI0, wAdd, wSub, wMod, wDiv, wPow, wMul, wEq, wEqB, wNe, wIsN, wIsB, wLen, wInt, wMax2, wMin2, wI2, wIxA, wSet, wGetC, wIp, wTupleOf, wStrI, wIsi, wIn, wInT, wAppend, wPop, wInsert, wLM, wGet, dkey, startD, tru, dty, lq, dRevL, putD, CDiv, CMul, CPow, setc_same, setc_setc]
  refine ⟨.inr (by omega), .inr (by split <;> omega), fun p hp => q _ _ ?_ (Int.emod_nonneg _ (by omega)) (Int.emod_lt_of_pos _ (by omega)) p hp⟩
  refine Int.mul_nonneg ?_ ?_ <;> split <;> omega

/-! ## the object of a row -/
theorem jf_k {q : JA} : (jf q).lookup ("kinds" : Str) = some (D.cell q.k) := rfl
theorem jf_s {q : JA} : (jf q).lookup ("sums" : Str) = some (D.cell q.s) := rfl
theorem jf_u {q : JA} : (jf q).lookup ("ups" : Str) = some (D.cell q.u) := rfl
theorem jf_d {q : JA} : (jf q).lookup ("downs" : Str) = some (D.cell q.d) := rfl
theorem jf_p {q : JA} : (jf q).lookup ("places" : Str) = some (D.cell q.p) := rfl
end LS
namespace LS
open PySem PySem.Spec PyProof.Rows L2 DL
structure JNe (a : Addr) (q : JA) : Prop where
  ak : a ≠ q.k
  as_ : a ≠ q.s
  au : a ≠ q.u
  ad : a ≠ q.d
  ap : a ≠ q.p
  ks : q.k ≠ q.s
  ku : q.k ≠ q.u
  kd : q.k ≠ q.d
  kp : q.k ≠ q.p
  su : q.s ≠ q.u
  sd : q.s ≠ q.d
  sp : q.s ≠ q.p
  ud : q.u ≠ q.d
  up : q.u ≠ q.p
  dp : q.d ≠ q.p
section
variable {cl : Str → Addr} {cs : Cs} {a : Addr} {q : JA} {n : Nat} {k c u d : Nat → Int} {pl : Int → Option Int}
theorem JNe.of (h : [a, q.k, q.s, q.u, q.d, q.p].Nodup) : JNe a q := by
  simp only [List.nodup_cons, List.mem_cons, List.not_mem_nil, not_or, or_false, not_false_eq_true, and_true, List.nodup_nil] at h
  obtain ⟨⟨h1, h2, h3, h4, h5⟩, ⟨h6, h7, h8, h9⟩, ⟨h10, h11, h12⟩, ⟨h13, h14⟩, h15⟩ := h
  exact ⟨h1, h2, h3, h4, h5, h6, h7, h8, h9, h10, h11, h12, h13, h14, h15⟩
theorem JAt.setK (J : JAt cl cs a q n k c u d pl) (k' : Nat → Int) : JAt cl (setc cs q.k (.lst (tab n k'))) a q n k' c u d pl := by
  have e := JNe.of J.nd
  exact ⟨(setc_ne e.ak).trans J.o, setc_same, (setc_ne e.ks.symm).trans J.hs, (setc_ne e.ku.symm).trans J.hu, (setc_ne e.kd.symm).trans J.hd, by rw [setc_ne e.kp.symm]; exact J.hp, J.nd, J.n1⟩
theorem JAt.setS (J : JAt cl cs a q n k c u d pl) (c' : Nat → Int) : JAt cl (setc cs q.s (.lst (tab n c'))) a q n k c' u d pl := by
  have e := JNe.of J.nd
  exact ⟨(setc_ne e.as_).trans J.o, (setc_ne e.ks).trans J.hk, setc_same, (setc_ne e.su.symm).trans J.hu, (setc_ne e.sd.symm).trans J.hd, by rw [setc_ne e.sp.symm]; exact J.hp, J.nd, J.n1⟩
theorem JAt.setU (J : JAt cl cs a q n k c u d pl) (u' : Nat → Int) : JAt cl (setc cs q.u (.lst (tab n u'))) a q n k c u' d pl := by
  have e := JNe.of J.nd
  exact ⟨(setc_ne e.au).trans J.o, (setc_ne e.ku).trans J.hk, (setc_ne e.su).trans J.hs, setc_same, (setc_ne e.ud.symm).trans J.hd, by rw [setc_ne e.up.symm]; exact J.hp, J.nd, J.n1⟩
theorem JAt.setD (J : JAt cl cs a q n k c u d pl) (d' : Nat → Int) : JAt cl (setc cs q.d (.lst (tab n d'))) a q n k c u d' pl := by
  have e := JNe.of J.nd
  exact ⟨(setc_ne e.ad).trans J.o, (setc_ne e.kd).trans J.hk, (setc_ne e.sd).trans J.hs, (setc_ne e.ud).trans J.hu, setc_same, by rw [setc_ne e.dp.symm]; exact J.hp, J.nd, J.n1⟩
theorem JAt.setP (J : JAt cl cs a q n k c u d pl) {kvs : List (Key × D)} {pl' : Int → Option Int} (hl : kvs.length ≤ n) (hv : ∀ z, vK kvs (.inl z) = (pl' z).map D.int) : JAt cl (setc cs q.p (.dict kvs)) a q n k c u d pl' := by
  have e := JNe.of J.nd
  exact ⟨(setc_ne e.ap).trans J.o, (setc_ne e.kp).trans J.hk, (setc_ne e.sp).trans J.hs, (setc_ne e.up).trans J.hu, (setc_ne e.dp).trans J.hd, ⟨kvs, setc_same, hl, hv⟩, J.nd, J.n1⟩
theorem JAt.congr (J : JAt cl cs a q n k c u d pl) {k' c' u' d' : Nat → Int} (h1 : ∀ i, i < n → k i = k' i) (h2 : ∀ i, i < n → c i = c' i) (h3 : ∀ i, i < n → u i = u' i) (h4 : ∀ i, i < n → d i = d' i) : JAt cl cs a q n k' c' u' d' pl :=
  ⟨J.o, by rw [← tab_congr h1]; exact J.hk, by rw [← tab_congr h2]; exact J.hs, by rw [← tab_congr h3]; exact J.hu, by rw [← tab_congr h4]; exact J.hd, J.hp, J.nd, J.n1⟩
end
theorem vK_pK {kvs : List (Key × D)} {k k' : Key} {v : D} : vK (pK kvs k v) k' = if k' = k then some v else vK kvs k' := by
  have ap : ∀ l : List (Key × D), (l.any fun kv => decide (kv.1 = k)) = false → vK (l ++ [(k, v)]) k' = if k' = k then some v else vK l k' := by
    intro l
    induction l with
    | nil => intro _; rw [List.nil_append, vK_cons]; by_cases e : k' = k
             · rw [if_pos e, if_pos e.symm]
             · rw [if_neg e, if_neg (Ne.symm e)]
    | cons p l ih =>
      intro h
      rw [List.any_cons, Bool.or_eq_false_iff] at h
      have hp : p.1 ≠ k := of_decide_eq_false h.1
      rw [List.cons_append, vK_cons, vK_cons, ih h.2]
      by_cases e : p.1 = k'
      · rw [if_pos e, if_pos e, if_neg (fun z => hp (e.trans z))]
      · rw [if_neg e, if_neg e]
  have mp : ∀ l : List (Key × D), (l.any fun kv => decide (kv.1 = k)) = true → vK (l.map fun kv => if kv.1 = k then (kv.1, v) else kv) k' = if k' = k then some v else vK l k' := by
    intro l
    have out : ∀ l : List (Key × D), k' ≠ k → vK (l.map fun kv => if kv.1 = k then (kv.1, v) else kv) k' = vK l k' := by
      intro l ne
      induction l with
      | nil => rfl
      | cons p l ih =>
        rw [List.map_cons, vK_cons, vK_cons, ih]
        by_cases e : p.1 = k
        · rw [if_pos e]; dsimp only; rw [if_neg (fun z => ne (z.symm.trans e)), if_neg (fun z => ne (z.symm.trans e))]
        · rw [if_neg e]
    induction l with
    | nil => intro h; cases h
    | cons p l ih =>
      intro h
      by_cases ne : k' = k
      · rw [if_pos ne, List.map_cons, vK_cons]
        by_cases e : p.1 = k
        · rw [if_pos e]; dsimp only; rw [if_pos (e.trans ne.symm)]
        · rw [if_neg e, if_neg (fun z => e (z.trans ne))]
          rw [List.any_cons, decide_eq_false e, Bool.false_or] at h
          have := ih h
          rw [if_pos ne] at this
          exact this
      · rw [if_neg ne]; exact out _ ne
  unfold pK
  by_cases h : (kvs.any fun kv => decide (kv.1 = k)) = true
  · rw [if_pos h]; exact mp kvs h
  · rw [if_neg h]; exact ap kvs (Bool.eq_false_iff.mpr h)
theorem pK_len {kvs : List (Key × D)} {k : Key} {v w : D} (h : vK kvs k = some w) : (pK kvs k v).length = kvs.length := by
  have an : (kvs.any fun kv => decide (kv.1 = k)) = true := by
    unfold vK at h
    cases e : kvs.find? fun kv => decide (kv.1 = k) with
    | none => rw [e] at h; cases h
    | some p =>
      rw [List.any_eq_true]
      exact ⟨p, List.mem_of_find?_eq_some e, by have := List.find?_some e; exact this⟩
  unfold pK
  rw [if_pos an, List.length_map]
theorem KpJ.refl {q : JA} {cs : Cs} : KpJ q cs cs := fun _ _ _ _ _ _ => rfl
theorem KpJ.trans {q : JA} {cs cs1 cs2 : Cs} (a : KpJ q cs cs1) (b : KpJ q cs1 cs2) : KpJ q cs cs2 := fun x h1 h2 h3 h4 h5 => (b x h1 h2 h3 h4 h5).trans (a x h1 h2 h3 h4 h5)
theorem KpJ.k {q : JA} {cs : Cs} {c : Ct} : KpJ q cs (setc cs q.k c) := fun _ h _ _ _ _ => setc_ne h
theorem KpJ.s {q : JA} {cs : Cs} {c : Ct} : KpJ q cs (setc cs q.s c) := fun _ _ h _ _ _ => setc_ne h
theorem KpJ.u {q : JA} {cs : Cs} {c : Ct} : KpJ q cs (setc cs q.u c) := fun _ _ _ h _ _ => setc_ne h
theorem KpJ.d {q : JA} {cs : Cs} {c : Ct} : KpJ q cs (setc cs q.d c) := fun _ _ _ _ h _ => setc_ne h
theorem KpJ.p {q : JA} {cs : Cs} {c : Ct} : KpJ q cs (setc cs q.p c) := fun _ _ _ _ _ h => setc_ne h

end LS
namespace LS
open PySem PySem.Spec PyProof.Rows L2 DL
theorem jf_hang {q : JA} : (jf q).lookup ("hang" : Str) = none := rfl
theorem jf_lay {q : JA} : (jf q).lookup ("lay" : Str) = none := rfl
theorem jf_row {q : JA} : (jf q).lookup ("row" : Str) = none := rfl
theorem jf_known {q : JA} : (jf q).lookup ("is_known" : Str) = none := rfl
theorem jf_tally {q : JA} : (jf q).lookup ("tally" : Str) = none := rfl
theorem jf_last {q : JA} : (jf q).lookup ("last_alike" : Str) = none := rfl
theorem jf_first {q : JA} : (jf q).lookup ("first_alike" : Str) = none := rfl
theorem jf_exch {q : JA} : (jf q).lookup ("exchange" : Str) = none := rfl
theorem ixN_natL {n j : Nat} (hj : j < n) : ixN n (j : Int) = some j := by
  rw [ixN_int (by omega) (by omega)]; simp
theorem cutif {t : DT} {a b : DS} {D : DEnds} {ρ : EnvD} {cs : Cs} (R : Bool → Cs → Prop) (h1 : ∀ B : Bool → Cs → Prop, (∀ c cs', R c cs' → B c cs') → t ρ cs B D.ex) (h2 : ∀ cs', R true cs' → a D ρ cs') (h3 : ∀ cs', R false cs' → b D ρ cs') : dIf t a b D ρ cs :=
  h1 _ fun c cs' r => by
    cases c with
    | true => exact h2 cs' r
    | false => exact h3 cs' r
/-- an expression's value, then the rest -/
theorem cute {w : DE} {ρ : EnvD} {cs : Cs} {Φ : D → Cs → Prop} {Ψ : EK} (R : D → Cs → Prop) (h1 : ∀ B : D → Cs → Prop, (∀ d cs', R d cs' → B d cs') → w ρ cs B Ψ) (h2 : ∀ d cs', R d cs' → Φ d cs') : w ρ cs Φ Ψ := h1 _ h2
theorem swap_st {C : Addr} {f : Str} {D : DEnds} {cs : Cs} {a fa : Addr} {q : JA} {n x y : Nat} {g : Nat → Int} (ho : cs a = some (.obj C (jf q))) (hf : (jf q).lookup f = some (.cell fa)) (hc : cs fa = some (.lst (tab n g))) (ne : a ≠ fa) (hx : x < n) (hy : y < n)
    (h : D.nx [some (.cell a), some (.int x), some (.int y)] (setc cs fa (.lst (tab n fun i => g (tau x y i))))) :
    (dAsg (dTup (dCons (dOp wIxA (dFld C f (dVar 0)) (dVar 2)) (dCons (dOp wIxA (dFld C f (dVar 0)) (dVar 1)) dNil))) (dgTup 2 (dgCons (dgSub (dFld C f (dVar 0)) (dVar 1)) (dgCons (dgSub (dFld C f (dVar 0)) (dVar 2)) dgNil)))) D [some (.cell a), some (.int x), some (.int y)] cs := by
  simp [-List.lookup_eq_none_iff, dSeq, dIf, dB, dOp, dVar, dC, dUn, dAsg, dCB, dCons, dNil, dgName, dgSub, dRet, dRetN, dDrop, dNext, dBreak, dCont, dNever, dIfE, dAnd, dOr, dNot, dTru, dAndV, dOrV, dNotV, dTup, dLst, nF, nC, dFld, dSetF, dCall, dMeth, dMake, dPar, dPar3, dgTup, dgCons, dgNil, dAug, dAugS2, dAugF, dBM, dBM0, dChain, dYes, dSl, dPart, dNoPart, wSl, wLt, wLe, wGt, wGe, wI, wI0, wAdd, wSub, wMod, wDiv, wPow, wMul, wEq, wEqB, wNe, wIsN, wIsB, wLen, wInt, wMax2, wMin2, wI2, wIxA, wSet, wGetC, wIp, wTupleOf, wStrI, wIsi, wIn, wInT, wAppend, wPop, wInsert, wLM, wGet, dkey, startD, tru, dty, lq, dRevL, putD, CDiv, CMul, CPow, setc_same, setc_setc, ho, hf, hc, tab_at hx, tab_at hy, setc_ne ne, tab_length, ixN_natL hx, ixN_natL hy, tab_set]
  rw [tab_congr (g := fun i => g (tau x y i)) (fun i _ => by
    unfold tau
    by_cases e1 : i = y
    · by_cases e2 : i = x
      · rw [if_pos e1, if_pos e2, ← e1, e2]
      · rw [if_pos e1, if_neg e2, if_pos e1]
    · by_cases e2 : i = x
      · rw [if_neg e1, if_pos e2, if_pos e2]
      · rw [if_neg e1, if_neg e2, if_neg e2, if_neg e1])]
  exact h
theorem JAt.ne_ {cl : Str → Addr} {cs : Cs} {a : Addr} {q : JA} {n : Nat} {k c u d : Nat → Int} {pl : Int → Option Int} (J : JAt cl cs a q n k c u d pl) : JNe a q := JNe.of J.nd
end LS
namespace LS
open PySem PySem.Spec PyProof.Rows L2 DL
theorem JAt.same {cl : Str → Addr} {cs : Cs} {a : Addr} {q : JA} {t : T} {d : Nat → Int} {pl : Int → Option Int} (J : JAt cl cs a q t.n t.k t.c t.u d pl) : JAt cl cs a q t.n t.k t.c t.u d pl := J
end LS
namespace LS
open PySem PySem.Spec PyProof.Rows L2 DL
def LcOk (m : NewM) (wg : DG) (wt : DT) (we : DE) (vs : List Nat) (ρ : EnvD) (Φ : D → Cs → Prop) (items : List D) (keep : Cs → Prop) (cs1 : Cs) : Prop := items.length ≤ 16000000 ∧ ∃ I : Nat → List D → Cs → Prop, I 0 [] cs1 ∧ ∀ i acc cs2, I i acc cs2 →
  keep cs2 ∧ (∀ x, items[i]? = some x → wg x (wipeD ρ vs) cs2 (fun ρ2 cs3 => wt ρ2 cs3 (fun b cs4 => if b = true then we ρ2 cs4 (fun y cs5 => I (i + 1) (acc ++ [y]) cs5) noEx else I (i + 1) acc cs4) noEx) noEx) ∧ (i = items.length → m acc cs2 Φ)
theorem dLc_eq {m : NewM} {wi : DI} {wg : DG} {wt : DT} {we : DE} {vs : List Nat} {ρ : EnvD} {cs : Cs} {Φ : D → Cs → Prop} {Ψ : EK} : dLc m wi wg wt we vs ρ cs Φ Ψ = wi ρ cs (fun items keep cs1 => LcOk m wg wt we vs ρ Φ items keep cs1) Ψ := rfl
theorem lc_gen {m : NewM} {wg : DG} {wt : DT} {we : DE} {vs : List Nat} {ρ : EnvD} {cs : Cs} {Φ : D → Cs → Prop} {items : List D} {keep : Cs → Prop} (acc : Nat → List D) (hk : keep cs) (hl : items.length ≤ 16000000) (h0 : acc 0 = [])
    (hs : ∀ i x, items[i]? = some x → ∀ B : List D → Cs → Prop, B (acc (i + 1)) cs → wg x (wipeD ρ vs) cs (fun ρ2 cs3 => wt ρ2 cs3 (fun b cs4 => if b = true then we ρ2 cs4 (fun y cs5 => B (acc i ++ [y]) cs5) noEx else B (acc i) cs4) noEx) noEx)
    (hm : m (acc items.length) cs Φ) : LcOk m wg wt we vs ρ Φ items keep cs :=
  ⟨hl, fun i a cs2 => a = acc i ∧ cs2 = cs, ⟨h0.symm, rfl⟩, by
    rintro i _ _ ⟨rfl, rfl⟩
    exact ⟨hk, fun x hx => hs i x hx (fun a cs2 => a = acc (i + 1) ∧ cs2 = _) ⟨rfl, rfl⟩, fun e => by subst e; exact hm⟩⟩
theorem range_map_succ {α : Type} {f : Nat → α} {i : Nat} : (List.range (i + 1)).map f = (List.range i).map f ++ [f i] := by
  rw [List.range_succ, List.map_append]; rfl
theorem tab_get_inv {n i : Nat} {f : Nat → Int} {x : D} (h : (tab n f)[i]? = some x) : i < n ∧ x = .int (f i) := by
  by_cases hi : i < n
  · rw [tab_get hi] at h; cases h; exact ⟨hi, rfl⟩
  · rw [List.getElem?_eq_none (by rw [tab_length]; omega)] at h; cases h
theorem enum_tab {n i : Nat} {f : Nat → Int} {x : D} (h : (enumD (tab n f))[i]? = some x) : i < n ∧ x = .tup [.int i, .int (f i)] := by
  obtain ⟨y, hy, rfl⟩ := enumD_get h
  obtain ⟨hi, rfl⟩ := tab_get_inv hy
  exact ⟨hi, rfl⟩
theorem row_get_inv {t : T} {i : Nat} {x : D} (h : ((List.range t.n).map (eJ t))[i]? = some x) : i < t.n ∧ x = eJ t i := by
  rw [List.getElem?_map] at h
  by_cases hi : i < t.n
  · rw [List.getElem?_range hi] at h; cases h; exact ⟨hi, rfl⟩
  · rw [List.getElem?_eq_none (by simpa using hi)] at h; cases h
theorem lc_col {wg : DG} {we : DE} {vs : List Nat} {ρ : EnvD} {cs : Cs} {Φ : D → Cs → Prop} {t : T} {f : Nat → Int} (n1 : t.n ≤ 1000)
    (hs : ∀ i, i < t.n → ∀ B : D → Cs → Prop, B (.int (f i)) cs → wg (eJ t i) (wipeD ρ vs) cs (fun ρ2 cs3 => we ρ2 cs3 B noEx) noEx) (h : ∀ p, cs p = none → Φ (.cell p) (setc cs p (.lst (tab t.n f)))) : LcOk nC wg dYes we vs ρ Φ ((List.range t.n).map (eJ t)) (fun _ => True) cs := by
  refine lc_gen (fun i => tab i f) trivial (by simp; omega) rfl (fun i x hx B hB => ?_) ?_
  · obtain ⟨hi, rfl⟩ := row_get_inv hx
    refine hs i hi (fun y cs5 => B (tab i f ++ [y]) cs5) ?_
    unfold tab at hB ⊢
    rw [range_map_succ] at hB
    exact hB
  · rw [show ((List.range t.n).map (eJ t)).length = t.n by simp]
    exact h
end LS
namespace LS
open PySem PySem.Spec PyProof.Rows L2 DL
def ForOk (wg : DG) (wb : DS) (D : DEnds) (ρ : EnvD) (items : List DL.D) (keep : Cs → Prop) (cs1 : Cs) : Prop := ∃ I : Nat → EnvD → Cs → Prop, I 0 ρ cs1 ∧ ∀ i ρ2 cs2, I i ρ2 cs2 → keep cs2 ∧
  (∀ x, items[i]? = some x → wg x ρ2 cs2 (fun ρ3 cs3 => wb { D with nx := I (i + 1), ct := I (i + 1), bk := D.nx } ρ3 cs3) D.ex) ∧ (i = items.length → D.nx ρ2 cs2)
theorem dFor_eq {wi : DI} {wg : DG} {wb : DS} {D : DEnds} {ρ : EnvD} {cs : Cs} : dFor wi wg wb D ρ cs = wi ρ cs (fun items keep cs1 => ForOk wg wb D ρ items keep cs1) D.ex := rfl
theorem dassoc {a b c : DS} : dSeq a (dSeq b c) = dSeq (dSeq a b) c := rfl
theorem for_enum {wg : DG} {wb : DS} {D : DEnds} {ρ : EnvD} {cs : Cs} {i : Nat} {ka : Addr} {ds : List DL.D} (hv : ρ[i]? = some (some (.cell ka))) (h : cs ka = some (.lst ds)) (q : ForOk wg wb D ρ (enumD ds) (fun cs => cs ka = some (.lst ds)) cs) : dFor (diEnum (dCons (dVar i) dNil)) wg wb D ρ cs := by
  rw [dFor_eq]
  simp only [diEnum, dCons, dVar, hv, dNil, h]
  exact q
/-- a loop by what holds at each turn -/
theorem for_gen {wg : DG} {wb : DS} {D : DEnds} {ρ : EnvD} {items : List DL.D} {keep : Cs → Prop} {cs1 : Cs} (I : Nat → EnvD → Cs → Prop) (h0 : I 0 ρ cs1) (hk : ∀ i ρ2 cs2, I i ρ2 cs2 → keep cs2)
    (hs : ∀ i ρ2 cs2 x, I i ρ2 cs2 → items[i]? = some x → ∀ B : EnvD → Cs → Prop, (∀ ρ' cs', I (i + 1) ρ' cs' → B ρ' cs') → wg x ρ2 cs2 (fun ρ3 cs3 => wb { D with nx := B, ct := B, bk := D.nx } ρ3 cs3) D.ex)
    (hd : ∀ ρ2 cs2, I items.length ρ2 cs2 → D.nx ρ2 cs2) : ForOk wg wb D ρ items keep cs1 :=
  ⟨I, h0, fun i ρ2 cs2 h => ⟨hk i ρ2 cs2 h, fun x hx => hs i ρ2 cs2 x h hx (I (i + 1)) fun _ _ q => q, fun e => by subst e; exact hd ρ2 cs2 h⟩⟩
theorem put1 {x : D} : putD ("kinds" : Str) x [] = ([("kinds", x)] : List (Str × D)) := rfl
theorem put2 {k x : D} : putD ("sums" : Str) x [("kinds", k)] = ([("kinds", k), ("sums", x)] : List (Str × D)) := rfl
theorem put3 {k s x : D} : putD ("ups" : Str) x [("kinds", k), ("sums", s)] = ([("kinds", k), ("sums", s), ("ups", x)] : List (Str × D)) := rfl
theorem put4 {k s u x : D} : putD ("downs" : Str) x [("kinds", k), ("sums", s), ("ups", u)] = ([("kinds", k), ("sums", s), ("ups", u), ("downs", x)] : List (Str × D)) := rfl
theorem put5 {k s u d x : D} : putD ("places" : Str) x [("kinds", k), ("sums", s), ("ups", u), ("downs", d)] = ([("kinds", k), ("sums", s), ("ups", u), ("downs", d), ("places", x)] : List (Str × D)) := rfl
theorem jput1 {k s u d p x : D} : putD ("kinds" : Str) x [("kinds", k), ("sums", s), ("ups", u), ("downs", d), ("places", p)] = ([("kinds", x), ("sums", s), ("ups", u), ("downs", d), ("places", p)] : List (Str × D)) := rfl
theorem jput2 {k s u d p x : D} : putD ("sums" : Str) x [("kinds", k), ("sums", s), ("ups", u), ("downs", d), ("places", p)] = ([("kinds", k), ("sums", x), ("ups", u), ("downs", d), ("places", p)] : List (Str × D)) := rfl
theorem jput3 {k s u d p x : D} : putD ("ups" : Str) x [("kinds", k), ("sums", s), ("ups", u), ("downs", d), ("places", p)] = ([("kinds", k), ("sums", s), ("ups", x), ("downs", d), ("places", p)] : List (Str × D)) := rfl
theorem jput4 {k s u d p x : D} : putD ("downs" : Str) x [("kinds", k), ("sums", s), ("ups", u), ("downs", d), ("places", p)] = ([("kinds", k), ("sums", s), ("ups", u), ("downs", x), ("places", p)] : List (Str × D)) := rfl
theorem jput5 {k s u d p x : D} : putD ("places" : Str) x [("kinds", k), ("sums", s), ("ups", u), ("downs", d), ("places", p)] = ([("kinds", k), ("sums", s), ("ups", u), ("downs", d), ("places", x)] : List (Str × D)) := rfl
theorem rep_tab {n : Nat} : List.replicate n (D.int (-1)) = tab n (fun _ => -1) := by
  induction n with
  | zero => rfl
  | succ n ih =>
    unfold tab at ih ⊢
    rw [range_map_succ, ← ih, List.replicate_succ']
end LS
namespace LS
open PySem PySem.Spec PyProof.Rows L2 DL
theorem Pl.at {n : Nat} {k : Nat → Int} {pl : Int → Option Int} (h : Pl n k pl) {z : Int} {i : Nat} (hz : 0 ≤ z) (hi : i < n) (hk : k i = z) : pl z = some (i : Int) := (h z i).mpr ⟨hz, i, rfl, hi, hk⟩
theorem KpJ.q {a : Addr} {q : JA} {cs cs' : Cs} (h : KpJ q cs cs') : KpQ a q cs cs' := fun b c _ h2 h3 h4 h5 h6 e => (h b h2 h3 h4 h5 h6).trans e
theorem Kp.kj {a : Addr} {q : JA} {cs cs1 cs2 : Cs} (k : Kp a cs cs1) (h : KpJ q cs1 cs2) (f : ∀ b c, cs b = some c → b ≠ q.k ∧ b ≠ q.s ∧ b ≠ q.u ∧ b ≠ q.d ∧ b ≠ q.p) : Kp a cs cs2 := fun b c hb hc => by
  obtain ⟨h1, h2, h3, h4, h5⟩ := f b c hc
  rw [h b h1 h2 h3 h4 h5]; exact k b c hb hc
theorem tab_split {a b : Nat} {g : Nat → Int} : tab (a + b) g = tab a g ++ tab b (fun i => g (i + a)) := by
  induction b with
  | zero => simp [tab]
  | succ b ih =>
    have e : ∀ n (f : Nat → Int), tab (n + 1) f = tab n f ++ [.int (f n)] := fun n f => by unfold tab; exact range_map_succ
    rw [show a + (b + 1) = a + b + 1 by omega, e, ih, e, List.append_assoc, Nat.add_comm b a]
theorem tab_drop {n j : Nat} {f : Nat → Int} (h : j ≤ n) : (tab n f).drop j = tab (n - j) (fun i => f (i + j)) := by
  have := tab_split (a := j) (b := n - j) (g := f)
  rw [show j + (n - j) = n by omega] at this
  rw [this, List.drop_left' tab_length]
theorem cut_tab {n j : Nat} {f : Nat → Int} (h : j ≤ n) : DL.cutD (tab n f) (some (j : Int)) none = tab (n - j) (fun i => f (i + j)) := by
  have e1 : HT.sIx (tab n f).length 0 (some (j : Int)) = j := by
    rw [tab_length, HT.sIx_nat]; omega
  have e2 : HT.sIx (tab n f).length (tab n f).length none = n := by
    rw [tab_length]; rfl
  unfold DL.cutD
  rw [e1, e2, tab_drop h, List.take_of_length_le (by rw [tab_length]; omega)]
end LS
namespace LS
open PySem PySem.Spec PyProof.Rows L2 DL
theorem h_want_row (cl : Str → Addr) : DOk (P_want_row cl) (w_want_row cl) 1 := by
  rintro ds cs Φ Ψ ⟨t, rfl, r, n1, hq⟩
  simp [-List.lookup_eq_none_iff, dSeq, dIf, dB, dOp, dVar, dC, dUn, dAsg, dCB, dCons, dNil, dgName, dgSub, dRet, dRetN, dDrop, dNext, dBreak, dCont, dNever, dIfE, dAnd, dOr, dNot, dTru, dAndV, dOrV, dNotV, dTup, dLst, nF, nC, dFld, dSetF, dCall, dMeth, dMake, dPar, dPar3, dgTup, dgCons, dgNil, dAug, dAugS2, dAugF, dBM, dBM0, dChain, dYes, dSl, dPart, dNoPart, wSl, wLt, wLe, wGt, wGe, wI, wI0, wAdd, wSub, wMod, wDiv, wPow, wMul, wEq, wEqB, wNe, wIsN, wIsB, wLen, wInt, wMax2, wMin2, wI2, wIxA, wSet, wGetC, wIp, wTupleOf, wStrI, wIsi, wIn, wInT, wAppend, wPop, wInsert, wLM, wGet, dkey, startD, tru, dty, lq, dRevL, putD, CDiv, CMul, CPow, setc_same, setc_setc, w_want_row]
  refine ⟨t, rfl, r, n1, fun cs' e => ?_⟩
  simp [-List.lookup_eq_none_iff, dSeq, dIf, dB, dOp, dVar, dC, dUn, dAsg, dCB, dCons, dNil, dgName, dgSub, dRet, dRetN, dDrop, dNext, dBreak, dCont, dNever, dIfE, dAnd, dOr, dNot, dTru, dAndV, dOrV, dNotV, dTup, dLst, nF, nC, dFld, dSetF, dCall, dMeth, dMake, dPar, dPar3, dgTup, dgCons, dgNil, dAug, dAugS2, dAugF, dBM, dBM0, dChain, dYes, dSl, dPart, dNoPart, wSl, wLt, wLe, wGt, wGe, wI, wI0, wAdd, wSub, wMod, wDiv, wPow, wMul, wEq, wEqB, wNe, wIsN, wIsB, wLen, wInt, wMax2, wMin2, wI2, wIxA, wSet, wGetC, wIp, wTupleOf, wStrI, wIsi, wIn, wInT, wAppend, wPop, wInsert, wLM, wGet, dkey, startD, tru, dty, lq, dRevL, putD, CDiv, CMul, CPow, setc_same, setc_setc]
  exact hq cs' e
end LS
namespace LS
open PySem PySem.Spec PyProof.Rows L2 DL
theorem at3_0 {a b c : D} : atI [a, b, c] 0 = some a := rfl
theorem at3_1 {a b c : D} : atI [a, b, c] 1 = some b := rfl
theorem at3_2 {a b c : D} : atI [a, b, c] 2 = some c := rfl
theorem kb_ii : kitB "int" "int" = some true := by decide +kernel
theorem kb_ib : kitB "int" "bool" = some false := by decide +kernel
theorem kb_tt : kitB "tuple" "tuple" = some true := by decide +kernel
theorem h_is_whole (cl : Str → Addr) : DOk (P_is_whole cl) (w_is_whole cl) 1 := by
  rintro ds cs Φ Ψ ⟨i, rfl, hq⟩
  simp [-List.lookup_eq_none_iff, dSeq, dIf, dB, dOp, dVar, dC, dUn, dAsg, dCB, dCons, dNil, dgName, dgSub, dRet, dRetN, dDrop, dNext, dBreak, dCont, dNever, dIfE, dAnd, dOr, dNot, dTru, dAndV, dOrV, dNotV, dTup, dLst, nF, nC, dFld, dSetF, dCall, dMeth, dMake, dPar, dPar3, dgTup, dgCons, dgNil, dAug, dAugS2, dAugF, dBM, dBM0, dChain, dYes, dSl, dPart, dNoPart, wSl, wLt, wLe, wGt, wGe, wI, wI0, wAdd, wSub, wMod, wDiv, wPow, wMul, wEq, wEqB, wNe, wIsN, wIsB, wLen, wInt, wMax2, wMin2, wI2, wIxA, wSet, wGetC, wIp, wTupleOf, wStrI, wIsi, wIn, wInT, wAppend, wPop, wInsert, wLM, wGet, dkey, startD, tru, dty, lq, dRevL, putD, CDiv, CMul, CPow, setc_same, setc_setc, w_is_whole, dtyp, kb_ii, kb_ib, hq]
theorem lc_row {m : NewM} {wg : DG} {we : DE} {vs : List Nat} {ρ : EnvD} {cs : Cs} {Φ : D → Cs → Prop} {t : T} {keep : Cs → Prop} {f : Nat → D} (hk : keep cs) (n1 : t.n ≤ 1000)
    (hs : ∀ i, i < t.n → ∀ B : D → Cs → Prop, B (f i) cs → wg (eJ t i) (wipeD ρ vs) cs (fun ρ2 cs3 => we ρ2 cs3 B noEx) noEx) (h : m ((List.range t.n).map f) cs Φ) : LcOk m wg dYes we vs ρ Φ ((List.range t.n).map (eJ t)) keep cs := by
  refine lc_gen (fun i => (List.range i).map f) hk (by simp; omega) rfl (fun i x hx B hB => ?_) ?_
  · obtain ⟨hi, rfl⟩ := row_get_inv hx
    refine hs i hi (fun y cs5 => B ((List.range i).map f ++ [y]) cs5) ?_
    rw [range_map_succ] at hB
    exact hB
  · rw [show ((List.range t.n).map (eJ t)).length = t.n by simp]
    exact h
theorem map_bl {α : Type} {l : List α} {f : α → Bool} : l.map (fun i => D.bl (f i)) = (l.map f).map D.bl := by rw [List.map_map]; rfl
theorem all_map_true {α : Type} {l : List α} {f : α → Bool} (h : ∀ x ∈ l, f x = true) : ((l.map f).all _root_.id) = true := by
  rw [List.all_map, List.all_eq_true]; exact h
theorem h_is_joint (cl : Str → Addr) : DOk (P_is_joint cl) (w_is_joint cl) 2 := by
  rintro ds cs Φ Ψ ⟨t, i, rfl, h0, h1, hq⟩
  simp [-List.lookup_eq_none_iff, dSeq, dIf, dB, dOp, dVar, dC, dUn, dAsg, dCB, dCons, dNil, dgName, dgSub, dRet, dRetN, dDrop, dNext, dBreak, dCont, dNever, dIfE, dAnd, dOr, dNot, dTru, dAndV, dOrV, dNotV, dTup, dLst, nF, nC, dFld, dSetF, dCall, dMeth, dMake, dPar, dPar3, dgTup, dgCons, dgNil, dAug, dAugS2, dAugF, dBM, dBM0, dChain, dYes, dSl, dPart, dNoPart, wSl, wLt, wLe, wGt, wGe, wI, wI0, wAdd, wSub, wMod, wDiv, wPow, wMul, wEq, wEqB, wNe, wIsN, wIsB, wLen, wInt, wMax2, wMin2, wI2, wIxA, wSet, wGetC, wIp, wTupleOf, wStrI, wIsi, wIn, wInT, wAppend, wPop, wInsert, wLM, wGet, dkey, startD, tru, dty, lq, dRevL, putD, CDiv, CMul, CPow, setc_same, setc_setc, w_is_joint, eJ, dtyp, kb_tt, dLc_eq, diSeq, wAll]
  refine lc_gen (fun j => (List.range j).map fun _ => D.bl true) trivial (by simp) rfl (fun j x hx B hB => ?_) ?_
  · have : ∃ v : Int, x = .int v := by
      match j, hx with
      | 0, h => exact ⟨_, (Option.some.inj h).symm⟩
      | 1, h => exact ⟨_, (Option.some.inj h).symm⟩
      | 2, h => exact ⟨_, (Option.some.inj h).symm⟩
    obtain ⟨v, rfl⟩ := this
    simp [-List.lookup_eq_none_iff, dSeq, dIf, dB, dOp, dVar, dC, dUn, dAsg, dCB, dCons, dNil, dgName, dgSub, dRet, dRetN, dDrop, dNext, dBreak, dCont, dNever, dIfE, dAnd, dOr, dNot, dTru, dAndV, dOrV, dNotV, dTup, dLst, nF, nC, dFld, dSetF, dCall, dMeth, dMake, dPar, dPar3, dgTup, dgCons, dgNil, dAug, dAugS2, dAugF, dBM, dBM0, dChain, dYes, dSl, dPart, dNoPart, wSl, wLt, wLe, wGt, wGe, wI, wI0, wAdd, wSub, wMod, wDiv, wPow, wMul, wEq, wEqB, wNe, wIsN, wIsB, wLen, wInt, wMax2, wMin2, wI2, wIxA, wSet, wGetC, wIp, wTupleOf, wStrI, wIsi, wIn, wInT, wAppend, wPop, wInsert, wLM, wGet, dkey, startD, tru, dty, lq, dRevL, putD, CDiv, CMul, CPow, setc_same, setc_setc, wipeD]
    refine ⟨v, rfl, ?_⟩
    rw [range_map_succ] at hB
    exact hB
  · simp [-List.lookup_eq_none_iff, dSeq, dIf, dB, dOp, dVar, dC, dUn, dAsg, dCB, dCons, dNil, dgName, dgSub, dRet, dRetN, dDrop, dNext, dBreak, dCont, dNever, dIfE, dAnd, dOr, dNot, dTru, dAndV, dOrV, dNotV, dTup, dLst, nF, nC, dFld, dSetF, dCall, dMeth, dMake, dPar, dPar3, dgTup, dgCons, dgNil, dAug, dAugS2, dAugF, dBM, dBM0, dChain, dYes, dSl, dPart, dNoPart, wSl, wLt, wLe, wGt, wGe, wI, wI0, wAdd, wSub, wMod, wDiv, wPow, wMul, wEq, wEqB, wNe, wIsN, wIsB, wLen, wInt, wMax2, wMin2, wI2, wIxA, wSet, wGetC, wIp, wTupleOf, wStrI, wIsi, wIn, wInT, wAppend, wPop, wInsert, wLM, wGet, dkey, startD, tru, dty, lq, dRevL, putD, CDiv, CMul, CPow, setc_same, setc_setc]
    refine ⟨[true, true, true], rfl, ?_⟩
    simp [-List.lookup_eq_none_iff, dSeq, dIf, dB, dOp, dVar, dC, dUn, dAsg, dCB, dCons, dNil, dgName, dgSub, dRet, dRetN, dDrop, dNext, dBreak, dCont, dNever, dIfE, dAnd, dOr, dNot, dTru, dAndV, dOrV, dNotV, dTup, dLst, nF, nC, dFld, dSetF, dCall, dMeth, dMake, dPar, dPar3, dgTup, dgCons, dgNil, dAug, dAugS2, dAugF, dBM, dBM0, dChain, dYes, dSl, dPart, dNoPart, wSl, wLt, wLe, wGt, wGe, wI, wI0, wAdd, wSub, wMod, wDiv, wPow, wMul, wEq, wEqB, wNe, wIsN, wIsB, wLen, wInt, wMax2, wMin2, wI2, wIxA, wSet, wGetC, wIp, wTupleOf, wStrI, wIsi, wIn, wInT, wAppend, wPop, wInsert, wLM, wGet, dkey, startD, tru, dty, lq, dRevL, putD, CDiv, CMul, CPow, setc_same, setc_setc, at3_0, h0, h1]
    exact hq
theorem h_order_fits (cl : Str → Addr) : DOk (P_order_fits cl) (w_order_fits cl) 2 := by
  rintro ds cs Φ Ψ ⟨t, rfl, r, n1, hq⟩
  have odd := r.mid.odd
  simp [-List.lookup_eq_none_iff, dSeq, dIf, dB, dOp, dVar, dC, dUn, dAsg, dCB, dCons, dNil, dgName, dgSub, dRet, dRetN, dDrop, dNext, dBreak, dCont, dNever, dIfE, dAnd, dOr, dNot, dTru, dAndV, dOrV, dNotV, dTup, dLst, nF, nC, dFld, dSetF, dCall, dMeth, dMake, dPar, dPar3, dgTup, dgCons, dgNil, dAug, dAugS2, dAugF, dBM, dBM0, dChain, dYes, dSl, dPart, dNoPart, wSl, wLt, wLe, wGt, wGe, wI, wI0, wAdd, wSub, wMod, wDiv, wPow, wMul, wEq, wEqB, wNe, wIsN, wIsB, wLen, wInt, wMax2, wMin2, wI2, wIxA, wSet, wGetC, wIp, wTupleOf, wStrI, wIsi, wIn, wInT, wAppend, wPop, wInsert, wLM, wGet, dkey, startD, tru, dty, lq, dRevL, putD, CDiv, CMul, CPow, setc_same, setc_setc, w_order_fits, eRow, dLc_eq, diRng1, wAll]
  refine ⟨by omega, by omega, ?_⟩
  refine lc_gen (fun i => (List.range i).map fun j => D.bl (decide (t.c j ≤ t.c (j + 1)))) trivial (by rw [rng_length]; omega) rfl (fun i x hx B hB => ?_) ?_
  · obtain ⟨hi, rfl⟩ := rng_get hx
    have a1 : atI ((List.range t.n).map (eJ t)) (i : Int) = some (eJ t i) := atI_nat (by rw [List.getElem?_map, List.getElem?_range (by omega)]; rfl)
    have a2 : atI ((List.range t.n).map (eJ t)) ((i : Int) + 1) = some (eJ t (i + 1)) := by
      have := atI_nat (xs := (List.range t.n).map (eJ t)) (j := i + 1) (v := eJ t (i + 1)) (by rw [List.getElem?_map, List.getElem?_range (by omega)]; rfl)
      exact this
    have z0 : (0 : Int) + (i : Int) = i := by omega
    simp [-List.lookup_eq_none_iff, dSeq, dIf, dB, dOp, dVar, dC, dUn, dAsg, dCB, dCons, dNil, dgName, dgSub, dRet, dRetN, dDrop, dNext, dBreak, dCont, dNever, dIfE, dAnd, dOr, dNot, dTru, dAndV, dOrV, dNotV, dTup, dLst, nF, nC, dFld, dSetF, dCall, dMeth, dMake, dPar, dPar3, dgTup, dgCons, dgNil, dAug, dAugS2, dAugF, dBM, dBM0, dChain, dYes, dSl, dPart, dNoPart, wSl, wLt, wLe, wGt, wGe, wI, wI0, wAdd, wSub, wMod, wDiv, wPow, wMul, wEq, wEqB, wNe, wIsN, wIsB, wLen, wInt, wMax2, wMin2, wI2, wIxA, wSet, wGetC, wIp, wTupleOf, wStrI, wIsi, wIn, wInT, wAppend, wPop, wInsert, wLM, wGet, dkey, startD, tru, dty, lq, dRevL, putD, CDiv, CMul, CPow, setc_same, setc_setc, wipeD, z0, a1, a2, eJ, at3_1]
    rw [range_map_succ] at hB
    exact hB
  · rw [rng_length]
    refine ⟨_, rfl, _, map_bl, ?_⟩
    rw [all_map_true (fun j hj => decide_eq_true (r.mid.srt j (by have := List.mem_range.mp hj; omega)))]
    exact hq
theorem h_row_right (cl : Str → Addr) : DOk (P_row_right cl) (w_row_right cl) 2 := by
  rintro ds cs Φ Ψ ⟨t, rfl, r, n1, hq⟩
  have odd := r.mid.odd
  unfold w_row_right
  refine cut (fun ρ' cs' => ρ' = [some (eRow t), none] ∧ cs = cs') (fun B hB => ?_) ?_
  · have m2 : ((t.n : Int) % 2) = 1 := by omega
    have l1 : (1 : Int) ≤ t.n := by omega
    have l2 : (t.n : Int) ≤ 513 := by omega
    simp [-List.lookup_eq_none_iff, dSeq, dIf, dB, dOp, dVar, dC, dUn, dAsg, dCB, dCons, dNil, dgName, dgSub, dRet, dRetN, dDrop, dNext, dBreak, dCont, dNever, dIfE, dAnd, dOr, dNot, dTru, dAndV, dOrV, dNotV, dTup, dLst, nF, nC, dFld, dSetF, dCall, dMeth, dMake, dPar, dPar3, dgTup, dgCons, dgNil, dAug, dAugS2, dAugF, dBM, dBM0, dChain, dYes, dSl, dPart, dNoPart, wSl, wLt, wLe, wGt, wGe, wI, wI0, wAdd, wSub, wMod, wDiv, wPow, wMul, wEq, wEqB, wNe, wIsN, wIsB, wLen, wInt, wMax2, wMin2, wI2, wIxA, wSet, wGetC, wIp, wTupleOf, wStrI, wIsi, wIn, wInT, wAppend, wPop, wInsert, wLM, wGet, dkey, startD, tru, dty, lq, dRevL, putD, CDiv, CMul, CPow, setc_same, setc_setc, eRow, dtyp, kb_tt, m2, l1, l2]
    exact hB _ _ ⟨rfl, rfl⟩
  rintro _ _ ⟨rfl, rfl⟩
  refine cut (fun ρ' cs' => ρ' = [some (eRow t), none] ∧ cs = cs') (fun B hB => ?_) ?_
  · simp [-List.lookup_eq_none_iff, dSeq, dIf, dB, dOp, dVar, dC, dUn, dAsg, dCB, dCons, dNil, dgName, dgSub, dRet, dRetN, dDrop, dNext, dBreak, dCont, dNever, dIfE, dAnd, dOr, dNot, dTru, dAndV, dOrV, dNotV, dTup, dLst, nF, nC, dFld, dSetF, dCall, dMeth, dMake, dPar, dPar3, dgTup, dgCons, dgNil, dAug, dAugS2, dAugF, dBM, dBM0, dChain, dYes, dSl, dPart, dNoPart, wSl, wLt, wLe, wGt, wGe, wI, wI0, wAdd, wSub, wMod, wDiv, wPow, wMul, wEq, wEqB, wNe, wIsN, wIsB, wLen, wInt, wMax2, wMin2, wI2, wIxA, wSet, wGetC, wIp, wTupleOf, wStrI, wIsi, wIn, wInT, wAppend, wPop, wInsert, wLM, wGet, dkey, startD, tru, dty, lq, dRevL, putD, CDiv, CMul, CPow, setc_same, setc_setc, eRow, dLc_eq, diSeq, wAll]
    refine lc_row (f := fun _ => D.bl true) trivial (by omega) (fun i hi B hB => ?_) ?_
    · simp [-List.lookup_eq_none_iff, dSeq, dIf, dB, dOp, dVar, dC, dUn, dAsg, dCB, dCons, dNil, dgName, dgSub, dRet, dRetN, dDrop, dNext, dBreak, dCont, dNever, dIfE, dAnd, dOr, dNot, dTru, dAndV, dOrV, dNotV, dTup, dLst, nF, nC, dFld, dSetF, dCall, dMeth, dMake, dPar, dPar3, dgTup, dgCons, dgNil, dAug, dAugS2, dAugF, dBM, dBM0, dChain, dYes, dSl, dPart, dNoPart, wSl, wLt, wLe, wGt, wGe, wI, wI0, wAdd, wSub, wMod, wDiv, wPow, wMul, wEq, wEqB, wNe, wIsN, wIsB, wLen, wInt, wMax2, wMin2, wI2, wIxA, wSet, wGetC, wIp, wTupleOf, wStrI, wIsi, wIn, wInT, wAppend, wPop, wInsert, wLM, wGet, dkey, startD, tru, dty, lq, dRevL, putD, CDiv, CMul, CPow, setc_same, setc_setc, wipeD]
      have kd := r.mid.kd i hi
      exact ⟨t, i, rfl, kd.1, kd.2, hB⟩
    · refine ⟨_, rfl, _, map_bl, ?_⟩
      simp [-List.lookup_eq_none_iff, dSeq, dIf, dB, dOp, dVar, dC, dUn, dAsg, dCB, dCons, dNil, dgName, dgSub, dRet, dRetN, dDrop, dNext, dBreak, dCont, dNever, dIfE, dAnd, dOr, dNot, dTru, dAndV, dOrV, dNotV, dTup, dLst, nF, nC, dFld, dSetF, dCall, dMeth, dMake, dPar, dPar3, dgTup, dgCons, dgNil, dAug, dAugS2, dAugF, dBM, dBM0, dChain, dYes, dSl, dPart, dNoPart, wSl, wLt, wLe, wGt, wGe, wI, wI0, wAdd, wSub, wMod, wDiv, wPow, wMul, wEq, wEqB, wNe, wIsN, wIsB, wLen, wInt, wMax2, wMin2, wI2, wIxA, wSet, wGetC, wIp, wTupleOf, wStrI, wIsi, wIn, wInT, wAppend, wPop, wInsert, wLM, wGet, dkey, startD, tru, dty, lq, dRevL, putD, CDiv, CMul, CPow, setc_same, setc_setc]
      exact hB _ _ ⟨rfl, rfl⟩
  rintro _ _ ⟨rfl, rfl⟩
  simp [-List.lookup_eq_none_iff, dSeq, dIf, dB, dOp, dVar, dC, dUn, dAsg, dCB, dCons, dNil, dgName, dgSub, dRet, dRetN, dDrop, dNext, dBreak, dCont, dNever, dIfE, dAnd, dOr, dNot, dTru, dAndV, dOrV, dNotV, dTup, dLst, nF, nC, dFld, dSetF, dCall, dMeth, dMake, dPar, dPar3, dgTup, dgCons, dgNil, dAug, dAugS2, dAugF, dBM, dBM0, dChain, dYes, dSl, dPart, dNoPart, wSl, wLt, wLe, wGt, wGe, wI, wI0, wAdd, wSub, wMod, wDiv, wPow, wMul, wEq, wEqB, wNe, wIsN, wIsB, wLen, wInt, wMax2, wMin2, wI2, wIxA, wSet, wGetC, wIp, wTupleOf, wStrI, wIsi, wIn, wInT, wAppend, wPop, wInsert, wLM, wGet, dkey, startD, tru, dty, lq, dRevL, putD, CDiv, CMul, CPow, setc_same, setc_setc]
  refine ⟨t, rfl, r, n1, ?_⟩
  simp [-List.lookup_eq_none_iff, dSeq, dIf, dB, dOp, dVar, dC, dUn, dAsg, dCB, dCons, dNil, dgName, dgSub, dRet, dRetN, dDrop, dNext, dBreak, dCont, dNever, dIfE, dAnd, dOr, dNot, dTru, dAndV, dOrV, dNotV, dTup, dLst, nF, nC, dFld, dSetF, dCall, dMeth, dMake, dPar, dPar3, dgTup, dgCons, dgNil, dAug, dAugS2, dAugF, dBM, dBM0, dChain, dYes, dSl, dPart, dNoPart, wSl, wLt, wLe, wGt, wGe, wI, wI0, wAdd, wSub, wMod, wDiv, wPow, wMul, wEq, wEqB, wNe, wIsN, wIsB, wLen, wInt, wMax2, wMin2, wI2, wIxA, wSet, wGetC, wIp, wTupleOf, wStrI, wIsi, wIn, wInT, wAppend, wPop, wInsert, wLM, wGet, dkey, startD, tru, dty, lq, dRevL, putD, CDiv, CMul, CPow, setc_same, setc_setc]
  refine ⟨t, rfl, r, n1, ?_⟩
  simp [-List.lookup_eq_none_iff, dSeq, dIf, dB, dOp, dVar, dC, dUn, dAsg, dCB, dCons, dNil, dgName, dgSub, dRet, dRetN, dDrop, dNext, dBreak, dCont, dNever, dIfE, dAnd, dOr, dNot, dTru, dAndV, dOrV, dNotV, dTup, dLst, nF, nC, dFld, dSetF, dCall, dMeth, dMake, dPar, dPar3, dgTup, dgCons, dgNil, dAug, dAugS2, dAugF, dBM, dBM0, dChain, dYes, dSl, dPart, dNoPart, wSl, wLt, wLe, wGt, wGe, wI, wI0, wAdd, wSub, wMod, wDiv, wPow, wMul, wEq, wEqB, wNe, wIsN, wIsB, wLen, wInt, wMax2, wMin2, wI2, wIxA, wSet, wGetC, wIp, wTupleOf, wStrI, wIsi, wIn, wInT, wAppend, wPop, wInsert, wLM, wGet, dkey, startD, tru, dty, lq, dRevL, putD, CDiv, CMul, CPow, setc_same, setc_setc]
  exact ⟨t, rfl, r, n1, hq⟩

/-! ## leaves, pairs counted -/
theorem nodup_le : ∀ {l l2 : List Nat}, l.Nodup → (∀ x ∈ l, x ∈ l2) → l.length ≤ l2.length
  | [], _, _, _ => Nat.zero_le _
  | x :: l, l2, h, s => by
    obtain ⟨h1, h2⟩ := List.nodup_cons.mp h
    have hx := s x (List.mem_cons_self ..)
    have := nodup_le (l2 := l2.erase x) h2 fun y hy => (List.mem_erase_of_ne (fun e => h1 (by rw [← e]; exact hy))).mpr (s y (List.mem_cons_of_mem _ hy))
    rw [List.length_erase_of_mem hx] at this
    have : 0 < l2.length := List.length_pos_of_mem hx
    simp only [List.length_cons]; omega
theorem nodup_map_range {n : Nat} {f : Nat → Nat} (h : ∀ i j, i < n → j < n → f i = f j → i = j) : ((List.range n).map f).Nodup := by
  rw [List.nodup_iff_pairwise_ne, List.pairwise_map]
  refine (List.Pairwise.imp_of_mem ?_ (List.nodup_range (n := n)))
  intro a b ha hb ne e
  exact ne (h a b (List.mem_range.mp ha) (List.mem_range.mp hb) e)
/-- the leaves' places -/
def lv (t : T) : List Nat := (List.range t.n).filter fun j => decide (t.k j ≠ -1)
theorem lv_len {t : T} (h : Shape t) : (lv t).length ≤ (t.n + 1) / 2 := by
  have odd := h.odd
  have e := List.length_eq_countP_add_countP (fun j => decide (t.k j ≠ -1)) (l := List.range t.n)
  have e1 : (lv t).length = (List.range t.n).countP (fun j => decide (t.k j ≠ -1)) := List.countP_eq_length_filter.symm
  rw [List.countP_eq_length_filter (p := fun a => decide ¬ decide (t.k a ≠ -1) = true), List.length_range] at e
  have sub : ((List.range ((t.n - 1) / 2)).map fun j => (t.u (2 * j)).toNat).length ≤ ((List.range t.n).filter fun a => decide ¬ decide (t.k a ≠ -1) = true).length := by
    refine nodup_le (nodup_map_range fun i j hi hj e => ?_) fun x hx => ?_
    · have ui := h.up (2 * i) (by omega) (by omega)
      have uj := h.up (2 * j) (by omega) (by omega)
      have := h.inj (2 * i) (2 * j) (by omega) (by omega) (by omega) (by omega) (by omega)
      omega
    · obtain ⟨j, hj, rfl⟩ := List.mem_map.mp hx
      have hj := List.mem_range.mp hj
      have uj := h.up (2 * j) (by omega) (by omega)
      rw [List.mem_filter]
      exact ⟨List.mem_range.mpr (by omega), by simp [uj.2.2]⟩
  rw [List.length_map, List.length_range] at sub
  omega
theorem lc_mapL {α : Type} {m : NewM} {wg : DG} {we : DE} {vs : List Nat} {ρ : EnvD} {cs : Cs} {Φ : D → Cs → Prop} {keep : Cs → Prop} {l : List α} {g f : α → D} (hk : keep cs) (n1 : l.length ≤ 16000000)
    (hs : ∀ x, x ∈ l → ∀ B : D → Cs → Prop, B (f x) cs → wg (g x) (wipeD ρ vs) cs (fun ρ2 cs3 => we ρ2 cs3 B noEx) noEx) (h : m (l.map f) cs Φ) : LcOk m wg dYes we vs ρ Φ (l.map g) keep cs := by
  refine lc_gen (fun i => (l.take i).map f) hk (by simpa using n1) rfl (fun i x hx B hB => ?_) ?_
  · rw [List.getElem?_map] at hx
    cases e : l[i]? with
    | none => rw [e] at hx; cases hx
    | some y =>
      rw [e] at hx
      cases hx
      refine hs y (List.mem_of_getElem? e) (fun z cs5 => B ((l.take i).map f ++ [z]) cs5) ?_
      rw [List.take_add_one, e] at hB
      simpa using hB
  · rw [List.length_map, List.take_length]
    exact h
def lf (t : T) (j : Nat) : D := .tup [.int (t.k j), .int (t.c j)]
theorem lv_mem {t : T} {j : Nat} : j ∈ lv t ↔ j < t.n ∧ t.k j ≠ -1 := by
  unfold lv; rw [List.mem_filter, List.mem_range]; simp
theorem lc_lv {m : NewM} {wg : DG} {wt : DT} {we : DE} {vs : List Nat} {ρ : EnvD} {cs : Cs} {Φ : D → Cs → Prop} {t : T} {keep : Cs → Prop} {f : Nat → D} {p : Nat → Bool} (hk : keep cs) (n1 : t.n ≤ 1000)
    (hs : ∀ i, i < t.n → ∀ B1 : D → Cs → Prop, ∀ B2 : Cs → Prop, (p i = true → B1 (f i) cs) → (p i = false → B2 cs) → wg (eJ t i) (wipeD ρ vs) cs (fun ρ2 cs3 => wt ρ2 cs3 (fun b cs4 => if b = true then we ρ2 cs4 B1 noEx else B2 cs4) noEx) noEx)
    (h : m (((List.range t.n).filter p).map f) cs Φ) : LcOk m wg wt we vs ρ Φ ((List.range t.n).map (eJ t)) keep cs := by
  refine lc_gen (fun i => ((List.range i).filter p).map f) hk (by simp; omega) rfl (fun i x hx B hB => ?_) ?_
  · obtain ⟨hi, rfl⟩ := row_get_inv hx
    refine hs i hi (fun y cs5 => B (((List.range i).filter p).map f ++ [y]) cs5) (fun cs4 => B (((List.range i).filter p).map f) cs4) (fun e => ?_) (fun e => ?_)
    · rw [List.range_succ, List.filter_append, List.map_append] at hB
      simpa [e] using hB
    · rw [List.range_succ, List.filter_append, List.map_append] at hB
      simpa [e] using hB
  · rw [show ((List.range t.n).map (eJ t)).length = t.n by simp]
    exact h
theorem lv_nodup {t : T} (h : Shape t) : ((lv t).map t.k).Nodup := by
  rw [List.nodup_iff_pairwise_ne, List.pairwise_map]
  refine List.Pairwise.imp_of_mem ?_ ((List.nodup_range (n := t.n)).filter _)
  intro a b ha hb ne e
  have ha := lv_mem.mp ha
  have hb := lv_mem.mp hb
  exact ne (h.dist a b ha.1 hb.1 (by have := h.kd a ha.1; omega) e)
theorem h_leaves_fit (cl : Str → Addr) : DOk (P_leaves_fit cl) (w_leaves_fit cl) 6 := by
  rintro ds cs Φ Ψ ⟨t, rfl, r, n1, hq⟩
  have odd := r.mid.odd
  have ll := lv_len r.mid.toShape
  unfold w_leaves_fit
  refine cut (fun ρ' cs' => ρ' = [some (eRow t), some (.lst ((lv t).map (lf t))), none, none, none, none] ∧ cs = cs') (fun B hB => ?_) ?_
  · simp [-List.lookup_eq_none_iff, dSeq, dIf, dB, dOp, dVar, dC, dUn, dAsg, dCB, dCons, dNil, dgName, dgSub, dRet, dRetN, dDrop, dNext, dBreak, dCont, dNever, dIfE, dAnd, dOr, dNot, dTru, dAndV, dOrV, dNotV, dTup, dLst, nF, nC, dFld, dSetF, dCall, dMeth, dMake, dPar, dPar3, dgTup, dgCons, dgNil, dAug, dAugS2, dAugF, dBM, dBM0, dChain, dYes, dSl, dPart, dNoPart, wSl, wLt, wLe, wGt, wGe, wI, wI0, wAdd, wSub, wMod, wDiv, wPow, wMul, wEq, wEqB, wNe, wIsN, wIsB, wLen, wInt, wMax2, wMin2, wI2, wIxA, wSet, wGetC, wIp, wTupleOf, wStrI, wIsi, wIn, wInT, wAppend, wPop, wInsert, wLM, wGet, dkey, startD, tru, dty, lq, dRevL, putD, CDiv, CMul, CPow, setc_same, setc_setc, eRow, dLc_eq, diSeq]
    refine lc_lv (f := lf t) (p := fun j => decide (t.k j ≠ -1)) trivial (by omega) (fun i hi B1 B2 h1 h2 => ?_) ?_
    · simp [-List.lookup_eq_none_iff, dSeq, dIf, dB, dOp, dVar, dC, dUn, dAsg, dCB, dCons, dNil, dgName, dgSub, dRet, dRetN, dDrop, dNext, dBreak, dCont, dNever, dIfE, dAnd, dOr, dNot, dTru, dAndV, dOrV, dNotV, dTup, dLst, nF, nC, dFld, dSetF, dCall, dMeth, dMake, dPar, dPar3, dgTup, dgCons, dgNil, dAug, dAugS2, dAugF, dBM, dBM0, dChain, dYes, dSl, dPart, dNoPart, wSl, wLt, wLe, wGt, wGe, wI, wI0, wAdd, wSub, wMod, wDiv, wPow, wMul, wEq, wEqB, wNe, wIsN, wIsB, wLen, wInt, wMax2, wMin2, wI2, wIxA, wSet, wGetC, wIp, wTupleOf, wStrI, wIsi, wIn, wInT, wAppend, wPop, wInsert, wLM, wGet, dkey, startD, tru, dty, lq, dRevL, putD, CDiv, CMul, CPow, setc_same, setc_setc, wipeD, eJ]
      by_cases e : t.k i = -1
      · rw [if_pos e]; exact h2 (by simp [e])
      · rw [if_neg e]; exact h1 (by simp [e])
    · exact hB _ _ ⟨rfl, rfl⟩
  rintro _ _ ⟨rfl, rfl⟩
  refine cut (fun ρ' cs' => ρ' = [some (eRow t), some (.lst ((lv t).map (lf t))), some (.lst ((lv t).map fun j => D.int (t.k j))), none, none, none] ∧ cs = cs') (fun B hB => ?_) ?_
  · simp [-List.lookup_eq_none_iff, dSeq, dIf, dB, dOp, dVar, dC, dUn, dAsg, dCB, dCons, dNil, dgName, dgSub, dRet, dRetN, dDrop, dNext, dBreak, dCont, dNever, dIfE, dAnd, dOr, dNot, dTru, dAndV, dOrV, dNotV, dTup, dLst, nF, nC, dFld, dSetF, dCall, dMeth, dMake, dPar, dPar3, dgTup, dgCons, dgNil, dAug, dAugS2, dAugF, dBM, dBM0, dChain, dYes, dSl, dPart, dNoPart, wSl, wLt, wLe, wGt, wGe, wI, wI0, wAdd, wSub, wMod, wDiv, wPow, wMul, wEq, wEqB, wNe, wIsN, wIsB, wLen, wInt, wMax2, wMin2, wI2, wIxA, wSet, wGetC, wIp, wTupleOf, wStrI, wIsi, wIn, wInT, wAppend, wPop, wInsert, wLM, wGet, dkey, startD, tru, dty, lq, dRevL, putD, CDiv, CMul, CPow, setc_same, setc_setc, dLc_eq, diSeq]
    refine lc_mapL (f := fun j => D.int (t.k j)) trivial (by omega) (fun x hx B hB => ?_) ?_
    · simp [-List.lookup_eq_none_iff, dSeq, dIf, dB, dOp, dVar, dC, dUn, dAsg, dCB, dCons, dNil, dgName, dgSub, dRet, dRetN, dDrop, dNext, dBreak, dCont, dNever, dIfE, dAnd, dOr, dNot, dTru, dAndV, dOrV, dNotV, dTup, dLst, nF, nC, dFld, dSetF, dCall, dMeth, dMake, dPar, dPar3, dgTup, dgCons, dgNil, dAug, dAugS2, dAugF, dBM, dBM0, dChain, dYes, dSl, dPart, dNoPart, wSl, wLt, wLe, wGt, wGe, wI, wI0, wAdd, wSub, wMod, wDiv, wPow, wMul, wEq, wEqB, wNe, wIsN, wIsB, wLen, wInt, wMax2, wMin2, wI2, wIxA, wSet, wGetC, wIp, wTupleOf, wStrI, wIsi, wIn, wInT, wAppend, wPop, wInsert, wLM, wGet, dkey, startD, tru, dty, lq, dRevL, putD, CDiv, CMul, CPow, setc_same, setc_setc, wipeD, lf]; exact hB
    · exact hB _ _ ⟨rfl, rfl⟩
  rintro _ _ ⟨rfl, rfl⟩
  refine cut (fun ρ' cs' => ρ' = [some (eRow t), some (.lst ((lv t).map (lf t))), some (.lst ((lv t).map fun j => D.int (t.k j))), none, none, none] ∧ cs = cs') (fun B hB => ?_) ?_
  · simp [-List.lookup_eq_none_iff, dSeq, dIf, dB, dOp, dVar, dC, dUn, dAsg, dCB, dCons, dNil, dgName, dgSub, dRet, dRetN, dDrop, dNext, dBreak, dCont, dNever, dIfE, dAnd, dOr, dNot, dTru, dAndV, dOrV, dNotV, dTup, dLst, nF, nC, dFld, dSetF, dCall, dMeth, dMake, dPar, dPar3, dgTup, dgCons, dgNil, dAug, dAugS2, dAugF, dBM, dBM0, dChain, dYes, dSl, dPart, dNoPart, wSl, wLt, wLe, wGt, wGe, wI, wI0, wAdd, wSub, wMod, wDiv, wPow, wMul, wEq, wEqB, wNe, wIsN, wIsB, wLen, wInt, wMax2, wMin2, wI2, wIxA, wSet, wGetC, wIp, wTupleOf, wStrI, wIsi, wIn, wInT, wAppend, wPop, wInsert, wLM, wGet, dkey, startD, tru, dty, lq, dRevL, putD, CDiv, CMul, CPow, setc_same, setc_setc, dLenSet]
    refine ⟨(lv t).map t.k, by rw [List.map_map]; rfl, by rw [List.length_map]; omega, lv_nodup r.mid.toShape, ?_⟩
    simp [-List.lookup_eq_none_iff, dSeq, dIf, dB, dOp, dVar, dC, dUn, dAsg, dCB, dCons, dNil, dgName, dgSub, dRet, dRetN, dDrop, dNext, dBreak, dCont, dNever, dIfE, dAnd, dOr, dNot, dTru, dAndV, dOrV, dNotV, dTup, dLst, nF, nC, dFld, dSetF, dCall, dMeth, dMake, dPar, dPar3, dgTup, dgCons, dgNil, dAug, dAugS2, dAugF, dBM, dBM0, dChain, dYes, dSl, dPart, dNoPart, wSl, wLt, wLe, wGt, wGe, wI, wI0, wAdd, wSub, wMod, wDiv, wPow, wMul, wEq, wEqB, wNe, wIsN, wIsB, wLen, wInt, wMax2, wMin2, wI2, wIxA, wSet, wGetC, wIp, wTupleOf, wStrI, wIsi, wIn, wInT, wAppend, wPop, wInsert, wLM, wGet, dkey, startD, tru, dty, lq, dRevL, putD, CDiv, CMul, CPow, setc_same, setc_setc]
    refine ⟨shal_tup (by simp [shal_int]), fun a ha => shal_tup (by simp [shal_int]), ?_⟩
    obtain ⟨i, hi, e1, e2⟩ := r.esc
    rw [if_neg]
    · exact hB _ _ ⟨rfl, rfl⟩
    · intro h
      have := h i (lv_mem.mpr ⟨hi, by omega⟩)
      simp [lf, deq, deqs, e1, e2] at this
  rintro _ _ ⟨rfl, rfl⟩
  simp [-List.lookup_eq_none_iff, dSeq, dIf, dB, dOp, dVar, dC, dUn, dAsg, dCB, dCons, dNil, dgName, dgSub, dRet, dRetN, dDrop, dNext, dBreak, dCont, dNever, dIfE, dAnd, dOr, dNot, dTru, dAndV, dOrV, dNotV, dTup, dLst, nF, nC, dFld, dSetF, dCall, dMeth, dMake, dPar, dPar3, dgTup, dgCons, dgNil, dAug, dAugS2, dAugF, dBM, dBM0, dChain, dYes, dSl, dPart, dNoPart, wSl, wLt, wLe, wGt, wGe, wI, wI0, wAdd, wSub, wMod, wDiv, wPow, wMul, wEq, wEqB, wNe, wIsN, wIsB, wLen, wInt, wMax2, wMin2, wI2, wIxA, wSet, wGetC, wIp, wTupleOf, wStrI, wIsi, wIn, wInT, wAppend, wPop, wInsert, wLM, wGet, dkey, startD, tru, dty, lq, dRevL, putD, CDiv, CMul, CPow, setc_same, setc_setc, dLc_eq, diSeq, wAll]
  refine lc_mapL (f := fun j => D.bl (decide (1 ≤ t.c j ∧ t.c j ≤ 1000000))) trivial (by omega) (fun x hx B hB => ?_) ?_
  · simp [-List.lookup_eq_none_iff, dSeq, dIf, dB, dOp, dVar, dC, dUn, dAsg, dCB, dCons, dNil, dgName, dgSub, dRet, dRetN, dDrop, dNext, dBreak, dCont, dNever, dIfE, dAnd, dOr, dNot, dTru, dAndV, dOrV, dNotV, dTup, dLst, nF, nC, dFld, dSetF, dCall, dMeth, dMake, dPar, dPar3, dgTup, dgCons, dgNil, dAug, dAugS2, dAugF, dBM, dBM0, dChain, dYes, dSl, dPart, dNoPart, wSl, wLt, wLe, wGt, wGe, wI, wI0, wAdd, wSub, wMod, wDiv, wPow, wMul, wEq, wEqB, wNe, wIsN, wIsB, wLen, wInt, wMax2, wMin2, wI2, wIxA, wSet, wGetC, wIp, wTupleOf, wStrI, wIsi, wIn, wInT, wAppend, wPop, wInsert, wLM, wGet, dkey, startD, tru, dty, lq, dRevL, putD, CDiv, CMul, CPow, setc_same, setc_setc, wipeD, lf]
    have hx := lv_mem.mp hx
    have a := r.c1 x hx.1
    have b := r.top x hx.1 (by have := r.mid.kd x hx.1; omega)
    simp [a, b] at hB ⊢
    exact hB
  · refine ⟨_, rfl, _, map_bl, ?_⟩
    rw [all_map_true (fun x hx => ?_)]
    · exact hq
    · have hx := lv_mem.mp hx
      exact decide_eq_true ⟨r.c1 x hx.1, r.top x hx.1 (by have := r.mid.kd x hx.1; omega)⟩

theorem rgc2 {n : Nat} (h1 : n % 2 = 1) (h2 : n ≤ 1000) : RgC 0 ((n : Int) - 1) 2 ((n - 1) / 2) := by
  have e : Builtin.Range.rangeSize 0 ((n : Int) - 1) 2 = ((n - 1) / 2 : Nat) := by
    unfold Builtin.Range.rangeSize
    rw [if_pos (by decide)]
    split <;> omega
  refine ⟨by decide, by decide, ?_, e⟩
  unfold Builtin.Range.small
  rw [e]
  simp only [Builtin.Range.rangeFitsLong, Bool.and_eq_true, Bool.or_eq_true, decide_eq_true_eq, show (2 : Int) > 0 by decide, if_true]
  refine ⟨⟨⟨⟨?_, ?_⟩, ?_⟩, ?_⟩, .inr ?_⟩ <;> omega
theorem h_ups_fit (cl : Str → Addr) : DOk (P_ups_fit cl) (w_ups_fit cl) 7 := by
  rintro ds cs Φ Ψ ⟨t, rfl, r, n1, hq⟩
  have odd := r.mid.odd
  have n0 : 0 < t.n := by omega
  have at_ : ∀ i : Nat, i < t.n → atI ((List.range t.n).map (eJ t)) (i : Int) = some (eJ t i) := fun i hi => atI_nat (by rw [List.getElem?_map, List.getElem?_range hi]; rfl)
  have last : atI ((List.range t.n).map (eJ t)) (-1) = some (eJ t (t.n - 1)) := by
    have e : (List.range t.n).map (eJ t) = (List.range (t.n - 1)).map (eJ t) ++ [eJ t (t.n - 1)] := by
      rw [← range_map_succ, show t.n - 1 + 1 = t.n by omega]
    rw [e]; exact atI_last _ _
  unfold w_ups_fit
  refine cut (fun ρ' cs' => ρ' = [some (eRow t), none, none, none, none, none, none] ∧ cs = cs') (fun B hB => ?_) ?_
  · simp [-List.lookup_eq_none_iff, dSeq, dIf, dB, dOp, dVar, dC, dUn, dAsg, dCB, dCons, dNil, dgName, dgSub, dRet, dRetN, dDrop, dNext, dBreak, dCont, dNever, dIfE, dAnd, dOr, dNot, dTru, dAndV, dOrV, dNotV, dTup, dLst, nF, nC, dFld, dSetF, dCall, dMeth, dMake, dPar, dPar3, dgTup, dgCons, dgNil, dAug, dAugS2, dAugF, dBM, dBM0, dChain, dYes, dSl, dPart, dNoPart, wSl, wLt, wLe, wGt, wGe, wI, wI0, wAdd, wSub, wMod, wDiv, wPow, wMul, wEq, wEqB, wNe, wIsN, wIsB, wLen, wInt, wMax2, wMin2, wI2, wIxA, wSet, wGetC, wIp, wTupleOf, wStrI, wIsi, wIn, wInT, wAppend, wPop, wInsert, wLM, wGet, dkey, startD, tru, dty, lq, dRevL, putD, CDiv, CMul, CPow, setc_same, setc_setc, eRow, last, eJ, at3_2, r.mid.root]
    exact hB _ _ ⟨rfl, rfl⟩
  rintro _ _ ⟨rfl, rfl⟩
  refine cut (fun ρ' cs' => ∃ p, cs p = none ∧ ρ' = [some (eRow t), some (.cell p), none, none, none, none, none] ∧ cs' = setc cs p (.dict [])) (fun B hB => ?_) ?_
  · simp [-List.lookup_eq_none_iff, dSeq, dIf, dB, dOp, dVar, dC, dUn, dAsg, dCB, dCons, dNil, dgName, dgSub, dRet, dRetN, dDrop, dNext, dBreak, dCont, dNever, dIfE, dAnd, dOr, dNot, dTru, dAndV, dOrV, dNotV, dTup, dLst, nF, nC, dFld, dSetF, dCall, dMeth, dMake, dPar, dPar3, dgTup, dgCons, dgNil, dAug, dAugS2, dAugF, dBM, dBM0, dChain, dYes, dSl, dPart, dNoPart, wSl, wLt, wLe, wGt, wGe, wI, wI0, wAdd, wSub, wMod, wDiv, wPow, wMul, wEq, wEqB, wNe, wIsN, wIsB, wLen, wInt, wMax2, wMin2, wI2, wIxA, wSet, wGetC, wIp, wTupleOf, wStrI, wIsi, wIn, wInT, wAppend, wPop, wInsert, wLM, wGet, dkey, startD, tru, dty, lq, dRevL, putD, CDiv, CMul, CPow, setc_same, setc_setc, dNewD]
    exact fun p hp => hB _ _ ⟨p, hp, rfl, rfl⟩
  rintro _ _ ⟨p, hp, rfl, rfl⟩
  have U : ∀ j, 2 * j + 1 < t.n → t.u (2 * j) = t.u (2 * j + 1) ∧ ((2 * j : Nat) : Int) + 1 < t.u (2 * j) ∧ t.u (2 * j) < t.n ∧ t.k (t.u (2 * j)).toNat = -1 ∧ t.c (t.u (2 * j)).toNat = t.c (2 * j) + t.c (2 * j + 1) := fun j hj => by
    have a := r.mid.pair (2 * j) (by omega) hj
    have b := r.mid.up (2 * j) (by omega) hj
    have c := r.mid.sums (2 * j) (by omega) hj
    rw [if_neg (by omega)] at c
    exact ⟨a.symm, b.1, b.2.1, b.2.2, by omega⟩
  refine cut (fun ρ' cs' => ∃ o2 o3 kvs, ρ' = [some (eRow t), some (.cell p), o2, o3, none, none, none] ∧ cs' = setc cs p (.dict kvs) ∧ ∀ j, 2 * j + 1 < t.n → vK kvs (.inl (t.u (2 * j))) = some (.int (t.c (t.u (2 * j)).toNat))) (fun B hB => ?_) ?_
  · rw [dFor_eq]
    show ∃ n, RgC 0 (((List.map (eJ t) (List.range t.n)).length : Int) - 1) 2 n ∧ ForOk _ _ _ _ (rngC 0 2 n) _ _
    refine ⟨(t.n - 1) / 2, by rw [List.length_map, List.length_range]; exact rgc2 (by omega) (by omega), ?_⟩
    refine for_gen (fun i ρ' cs' => ∃ o2 o3 kvs, ρ' = [some (eRow t), some (.cell p), o2, o3, none, none, none] ∧ cs' = setc cs p (.dict kvs) ∧ kvs.length ≤ i ∧ (∀ j, j < i → vK kvs (.inl (t.u (2 * j))) = some (.int (t.c (t.u (2 * j)).toNat))) ∧
      ∀ z, (∀ j, j < i → t.u (2 * j) ≠ z) → vK kvs (.inl z) = none) ⟨none, none, [], rfl, rfl, Nat.le_refl _, fun j hj => by omega, fun z _ => rfl⟩ (fun _ _ _ _ => trivial) ?_ ?_
    · rintro i _ _ x ⟨o2, o3, kvs, rfl, rfl, hl, hv, hn⟩ hx B hB
      obtain ⟨hi, rfl⟩ := rngC_get hx
      obtain ⟨P, hP⟩ : ∃ P : Nat, P = 2 * i := ⟨_, rfl⟩
      have eP : (0 : Int) + (i : Int) * 2 = (P : Int) := by omega
      rw [eP]
      obtain ⟨u1, u2, u3, u4, u5⟩ := U i (by omega)
      rw [← hP] at u1 u2 u3 u4 u5
      have aP := at_ P (by omega)
      have aP1 : atI ((List.range t.n).map (eJ t)) ((P : Int) + 1) = some (eJ t (P + 1)) := at_ (P + 1) (by omega)
      have aU : atI ((List.range t.n).map (eJ t)) (t.u P) = some (eJ t (t.u P).toNat) := by
        have := at_ (t.u P).toNat (by omega)
        rwa [show (((t.u P).toNat : Nat) : Int) = t.u P by omega] at this
      have nk := hn (t.u P) (fun j hj e => by
        have := r.mid.inj (2 * j) P (by omega) (by omega) (by omega) (by omega) e
        omega)
      simp only [dgName, List.set_cons_succ, List.set_cons_zero]
      generalize hcs : setc cs p (.dict kvs) = cs1
      have ep : cs1 p = some (.dict kvs) := by rw [← hcs, setc_same]
      refine cut (fun ρ' cs' => ρ' = [some (eRow t), some (.cell p), some (.int P), some (.int (t.u P)), none, none, none] ∧ cs1 = cs') (fun B2 h2 => ?_) ?_
      · simp [-List.lookup_eq_none_iff, dSeq, dIf, dB, dOp, dVar, dC, dUn, dAsg, dCB, dCons, dNil, dgName, dgSub, dRet, dRetN, dDrop, dNext, dBreak, dCont, dNever, dIfE, dAnd, dOr, dNot, dTru, dAndV, dOrV, dNotV, dTup, dLst, nF, nC, dFld, dSetF, dCall, dMeth, dMake, dPar, dPar3, dgTup, dgCons, dgNil, dAug, dAugS2, dAugF, dBM, dBM0, dChain, dYes, dSl, dPart, dNoPart, wSl, wLt, wLe, wGt, wGe, wI, wI0, wAdd, wSub, wMod, wDiv, wPow, wMul, wEq, wEqB, wNe, wIsN, wIsB, wLen, wInt, wMax2, wMin2, wI2, wIxA, wSet, wGetC, wIp, wTupleOf, wStrI, wIsi, wIn, wInT, wAppend, wPop, wInsert, wLM, wGet, dkey, startD, tru, dty, lq, dRevL, putD, CDiv, CMul, CPow, setc_same, setc_setc, eRow, aP, eJ, at3_2]
        exact h2 _ _ ⟨rfl, rfl⟩
      rintro _ _ ⟨rfl, rfl⟩
      refine cut (fun ρ' cs' => ρ' = [some (eRow t), some (.cell p), some (.int P), some (.int (t.u P)), none, none, none] ∧ cs1 = cs') (fun B2 h2 => ?_) ?_
      · refine cutif (fun c cs' => c = false ∧ cs1 = cs') (fun B3 h3 => ?_) (fun _ z => by cases z.1) ?_
        · unfold dOr
          simp [-List.lookup_eq_none_iff, dSeq, dIf, dB, dOp, dVar, dC, dUn, dAsg, dCB, dCons, dNil, dgName, dgSub, dRet, dRetN, dDrop, dNext, dBreak, dCont, dNever, dIfE, dAnd, dOr, dNot, dTru, dAndV, dOrV, dNotV, dTup, dLst, nF, nC, dFld, dSetF, dCall, dMeth, dMake, dPar, dPar3, dgTup, dgCons, dgNil, dAug, dAugS2, dAugF, dBM, dBM0, dChain, dYes, dSl, dPart, dNoPart, wSl, wLt, wLe, wGt, wGe, wI, wI0, wAdd, wSub, wMod, wDiv, wPow, wMul, wEq, wEqB, wNe, wIsN, wIsB, wLen, wInt, wMax2, wMin2, wI2, wIxA, wSet, wGetC, wIp, wTupleOf, wStrI, wIsi, wIn, wInT, wAppend, wPop, wInsert, wLM, wGet, dkey, startD, tru, dty, lq, dRevL, putD, CDiv, CMul, CPow, setc_same, setc_setc, eRow, aP1, eJ, at3_2, ← u1]
          simp [-List.lookup_eq_none_iff, dSeq, dIf, dB, dOp, dVar, dC, dUn, dAsg, dCB, dCons, dNil, dgName, dgSub, dRet, dRetN, dDrop, dNext, dBreak, dCont, dNever, dIfE, dAnd, dOr, dNot, dTru, dAndV, dOrV, dNotV, dTup, dLst, nF, nC, dFld, dSetF, dCall, dMeth, dMake, dPar, dPar3, dgTup, dgCons, dgNil, dAug, dAugS2, dAugF, dBM, dBM0, dChain, dYes, dSl, dPart, dNoPart, wSl, wLt, wLe, wGt, wGe, wI, wI0, wAdd, wSub, wMod, wDiv, wPow, wMul, wEq, wEqB, wNe, wIsN, wIsB, wLen, wInt, wMax2, wMin2, wI2, wIxA, wSet, wGetC, wIp, wTupleOf, wStrI, wIsi, wIn, wInT, wAppend, wPop, wInsert, wLM, wGet, dkey, startD, tru, dty, lq, dRevL, putD, CDiv, CMul, CPow, setc_same, setc_setc, u2, u3]
          simp [-List.lookup_eq_none_iff, dSeq, dIf, dB, dOp, dVar, dC, dUn, dAsg, dCB, dCons, dNil, dgName, dgSub, dRet, dRetN, dDrop, dNext, dBreak, dCont, dNever, dIfE, dAnd, dOr, dNot, dTru, dAndV, dOrV, dNotV, dTup, dLst, nF, nC, dFld, dSetF, dCall, dMeth, dMake, dPar, dPar3, dgTup, dgCons, dgNil, dAug, dAugS2, dAugF, dBM, dBM0, dChain, dYes, dSl, dPart, dNoPart, wSl, wLt, wLe, wGt, wGe, wI, wI0, wAdd, wSub, wMod, wDiv, wPow, wMul, wEq, wEqB, wNe, wIsN, wIsB, wLen, wInt, wMax2, wMin2, wI2, wIxA, wSet, wGetC, wIp, wTupleOf, wStrI, wIsi, wIn, wInT, wAppend, wPop, wInsert, wLM, wGet, dkey, startD, tru, dty, lq, dRevL, putD, CDiv, CMul, CPow, setc_same, setc_setc, aU, eJ, at3_0, u4]
          simp [-List.lookup_eq_none_iff, dSeq, dIf, dB, dOp, dVar, dC, dUn, dAsg, dCB, dCons, dNil, dgName, dgSub, dRet, dRetN, dDrop, dNext, dBreak, dCont, dNever, dIfE, dAnd, dOr, dNot, dTru, dAndV, dOrV, dNotV, dTup, dLst, nF, nC, dFld, dSetF, dCall, dMeth, dMake, dPar, dPar3, dgTup, dgCons, dgNil, dAug, dAugS2, dAugF, dBM, dBM0, dChain, dYes, dSl, dPart, dNoPart, wSl, wLt, wLe, wGt, wGe, wI, wI0, wAdd, wSub, wMod, wDiv, wPow, wMul, wEq, wEqB, wNe, wIsN, wIsB, wLen, wInt, wMax2, wMin2, wI2, wIxA, wSet, wGetC, wIp, wTupleOf, wStrI, wIsi, wIn, wInT, wAppend, wPop, wInsert, wLM, wGet, dkey, startD, tru, dty, lq, dRevL, putD, CDiv, CMul, CPow, setc_same, setc_setc, ep, nk]
          rw [if_neg (by omega)]
          exact h3 _ _ ⟨rfl, rfl⟩
        · rintro _ ⟨_, rfl⟩
          exact h2 _ _ ⟨rfl, rfl⟩
      rintro _ _ ⟨rfl, rfl⟩
      simp [-List.lookup_eq_none_iff, dSeq, dIf, dB, dOp, dVar, dC, dUn, dAsg, dCB, dCons, dNil, dgName, dgSub, dRet, dRetN, dDrop, dNext, dBreak, dCont, dNever, dIfE, dAnd, dOr, dNot, dTru, dAndV, dOrV, dNotV, dTup, dLst, nF, nC, dFld, dSetF, dCall, dMeth, dMake, dPar, dPar3, dgTup, dgCons, dgNil, dAug, dAugS2, dAugF, dBM, dBM0, dChain, dYes, dSl, dPart, dNoPart, wSl, wLt, wLe, wGt, wGe, wI, wI0, wAdd, wSub, wMod, wDiv, wPow, wMul, wEq, wEqB, wNe, wIsN, wIsB, wLen, wInt, wMax2, wMin2, wI2, wIxA, wSet, wGetC, wIp, wTupleOf, wStrI, wIsi, wIn, wInT, wAppend, wPop, wInsert, wLM, wGet, dkey, startD, tru, dty, lq, dRevL, putD, CDiv, CMul, CPow, setc_same, setc_setc, eRow, aP, aP1, eJ, at3_1, ep]
      refine ⟨by omega, hB _ _ ⟨_, _, pK kvs (.inl (t.u P)) (.int (t.c P + t.c (P + 1))), rfl, by rw [← hcs, setc_setc], ?_, fun j hj => ?_, fun z hz => ?_⟩⟩
      · have := pK_length (kvs := kvs) (k := .inl (t.u P)) (d := .int (t.c P + t.c (P + 1))); omega
      · rw [vK_pK]
        by_cases ej : t.u (2 * j) = t.u P
        · rw [if_pos (by rw [ej]), ej, u5]
        · rw [if_neg (fun w => ej (Sum.inl.inj w))]
          exact hv j (by
            have : j ≠ i := fun w => ej (by rw [w, hP])
            omega)
      · rw [vK_pK, if_neg (fun w => hz i (by omega) (by rw [← hP]; exact (Sum.inl.inj w).symm))]
        exact hn z fun j hj => hz j (by omega)
    · rintro _ _ ⟨o2, o3, kvs, rfl, rfl, hl, hv, hn⟩
      rw [rngC_length] at hv
      exact hB _ _ ⟨o2, o3, kvs, rfl, rfl, fun j hj => hv j (by omega)⟩
  · rintro _ _ ⟨o2, o3, kvs, rfl, rfl, hv⟩
    simp [-List.lookup_eq_none_iff, dSeq, dIf, dB, dOp, dVar, dC, dUn, dAsg, dCB, dCons, dNil, dgName, dgSub, dRet, dRetN, dDrop, dNext, dBreak, dCont, dNever, dIfE, dAnd, dOr, dNot, dTru, dAndV, dOrV, dNotV, dTup, dLst, nF, nC, dFld, dSetF, dCall, dMeth, dMake, dPar, dPar3, dgTup, dgCons, dgNil, dAug, dAugS2, dAugF, dBM, dBM0, dChain, dYes, dSl, dPart, dNoPart, wSl, wLt, wLe, wGt, wGe, wI, wI0, wAdd, wSub, wMod, wDiv, wPow, wMul, wEq, wEqB, wNe, wIsN, wIsB, wLen, wInt, wMax2, wMin2, wI2, wIxA, wSet, wGetC, wIp, wTupleOf, wStrI, wIsi, wIn, wInT, wAppend, wPop, wInsert, wLM, wGet, dkey, startD, tru, dty, lq, dRevL, putD, CDiv, CMul, CPow, setc_same, setc_setc, dLc_eq, diEnum, eRow, wAll]
    refine lc_gen (fun i => (List.range i).map fun _ => D.bl true) trivial (by rw [enumD_length]; simp; omega) rfl (fun i x hx B hB => ?_) ?_
    · obtain ⟨y, hy, rfl⟩ := enumD_get hx
      obtain ⟨hi, rfl⟩ := row_get_inv hy
      rw [range_map_succ] at hB
      simp [-List.lookup_eq_none_iff, dSeq, dIf, dB, dOp, dVar, dC, dUn, dAsg, dCB, dCons, dNil, dgName, dgSub, dRet, dRetN, dDrop, dNext, dBreak, dCont, dNever, dIfE, dAnd, dOr, dNot, dTru, dAndV, dOrV, dNotV, dTup, dLst, nF, nC, dFld, dSetF, dCall, dMeth, dMake, dPar, dPar3, dgTup, dgCons, dgNil, dAug, dAugS2, dAugF, dBM, dBM0, dChain, dYes, dSl, dPart, dNoPart, wSl, wLt, wLe, wGt, wGe, wI, wI0, wAdd, wSub, wMod, wDiv, wPow, wMul, wEq, wEqB, wNe, wIsN, wIsB, wLen, wInt, wMax2, wMin2, wI2, wIxA, wSet, wGetC, wIp, wTupleOf, wStrI, wIsi, wIn, wInT, wAppend, wPop, wInsert, wLM, wGet, dkey, startD, tru, dty, lq, dRevL, putD, CDiv, CMul, CPow, setc_same, setc_setc, wipeD, eJ]
      by_cases e : t.k i = -1
      · obtain ⟨j, ej, hj, hu⟩ := r.mid.ons i hi e
        have := hv (j / 2) (by omega)
        rw [show 2 * (j / 2) = j by omega, hu] at this
        simp [-List.lookup_eq_none_iff, dSeq, dIf, dB, dOp, dVar, dC, dUn, dAsg, dCB, dCons, dNil, dgName, dgSub, dRet, dRetN, dDrop, dNext, dBreak, dCont, dNever, dIfE, dAnd, dOr, dNot, dTru, dAndV, dOrV, dNotV, dTup, dLst, nF, nC, dFld, dSetF, dCall, dMeth, dMake, dPar, dPar3, dgTup, dgCons, dgNil, dAug, dAugS2, dAugF, dBM, dBM0, dChain, dYes, dSl, dPart, dNoPart, wSl, wLt, wLe, wGt, wGe, wI, wI0, wAdd, wSub, wMod, wDiv, wPow, wMul, wEq, wEqB, wNe, wIsN, wIsB, wLen, wInt, wMax2, wMin2, wI2, wIxA, wSet, wGetC, wIp, wTupleOf, wStrI, wIsi, wIn, wInT, wAppend, wPop, wInsert, wLM, wGet, dkey, startD, tru, dty, lq, dRevL, putD, CDiv, CMul, CPow, setc_same, setc_setc, e, this]
        exact hB
      · simp [-List.lookup_eq_none_iff, dSeq, dIf, dB, dOp, dVar, dC, dUn, dAsg, dCB, dCons, dNil, dgName, dgSub, dRet, dRetN, dDrop, dNext, dBreak, dCont, dNever, dIfE, dAnd, dOr, dNot, dTru, dAndV, dOrV, dNotV, dTup, dLst, nF, nC, dFld, dSetF, dCall, dMeth, dMake, dPar, dPar3, dgTup, dgCons, dgNil, dAug, dAugS2, dAugF, dBM, dBM0, dChain, dYes, dSl, dPart, dNoPart, wSl, wLt, wLe, wGt, wGe, wI, wI0, wAdd, wSub, wMod, wDiv, wPow, wMul, wEq, wEqB, wNe, wIsN, wIsB, wLen, wInt, wMax2, wMin2, wI2, wIxA, wSet, wGetC, wIp, wTupleOf, wStrI, wIsi, wIn, wInT, wAppend, wPop, wInsert, wLM, wGet, dkey, startD, tru, dty, lq, dRevL, putD, CDiv, CMul, CPow, setc_same, setc_setc, e]
        exact hB
    · rw [enumD_length]
      refine ⟨_, rfl, _, map_bl, ?_⟩
      rw [all_map_true (fun _ _ => rfl)]
      exact hq _ fun b c hb => by rw [setc_ne (ne_of_cs hb hp)]; exact hb
end LS
namespace LS
open PySem PySem.Spec PyProof.Rows L2 DL
theorem list_snoc {α : Type} : ∀ {l : List α}, l ≠ [] → ∃ r x, l = r ++ [x]
  | [], h => absurd rfl h
  | [x], _ => ⟨[], x, rfl⟩
  | x :: y :: l, _ => by
    obtain ⟨r, z, e⟩ := list_snoc (l := y :: l) (by simp)
    exact ⟨x :: r, z, by rw [e]; rfl⟩
theorem h_take_least (cl : Str → Addr) : DOk (P_take_least cl) (w_take_least cl) 2 := by
  rintro ds cs Φ Ψ ⟨a, b, ls, ps, rfl, ne, ha, hb, dl, dp, h0, h1, hq⟩
  -- the leaf that is last
  have popL : ∀ r x, ls = r ++ [x] → (∀ y ∈ ps, x ≤ y) → ∀ D : DEnds, D.rt = Φ → (dRet (dBM0 "list" wPop (dVar 0))) D [some (.cell a), some (.cell b)] cs := by
    rintro r x rfl hp D hD
    have pr := List.pairwise_append.mp dl
    simp [-List.lookup_eq_none_iff, dSeq, dIf, dB, dOp, dVar, dC, dUn, dAsg, dCB, dCons, dNil, dgName, dgSub, dRet, dRetN, dDrop, dNext, dBreak, dCont, dNever, dIfE, dAnd, dOr, dNot, dTru, dAndV, dOrV, dNotV, dTup, dLst, nF, nC, dFld, dSetF, dCall, dMeth, dMake, dPar, dPar3, dgTup, dgCons, dgNil, dAug, dAugS2, dAugF, dBM, dBM0, dChain, dYes, dSl, dPart, dNoPart, wSl, wLt, wLe, wGt, wGe, wI, wI0, wAdd, wSub, wMod, wDiv, wPow, wMul, wEq, wEqB, wNe, wIsN, wIsB, wLen, wInt, wMax2, wMin2, wI2, wIxA, wSet, wGetC, wIp, wTupleOf, wStrI, wIsi, wIn, wInT, wAppend, wPop, wInsert, wLM, wGet, dkey, startD, tru, dty, lq, dRevL, putD, CDiv, CMul, CPow, setc_same, setc_setc, ha, hD]
    have := hq x r ps (by
      rw [List.append_assoc]
      exact (List.perm_middle (a := x) (l₁ := r) (l₂ := ps)).symm) (fun y hy => by
        rcases List.mem_append.mp hy with hy | hy
        · exact pr.2.2 y hy x (by simp)
        · exact hp y hy) pr.1 dp (fun _ h => h)
    rw [setc_self (cs := setc cs a _) (by rw [setc_ne ne.symm]; exact hb)] at this
    exact this
  have popP : ∀ x r, ps = x :: r → (∀ y ∈ ls, x ≤ y) → ∀ D : DEnds, D.rt = Φ → (dRet (dBM "list" wPop (dVar 1) (dCons (dC (.int 0)) dNil))) D [some (.cell a), some (.cell b)] cs := by
    rintro x r rfl hp D hD
    have pr := List.pairwise_cons.mp dp
    simp [-List.lookup_eq_none_iff, dSeq, dIf, dB, dOp, dVar, dC, dUn, dAsg, dCB, dCons, dNil, dgName, dgSub, dRet, dRetN, dDrop, dNext, dBreak, dCont, dNever, dIfE, dAnd, dOr, dNot, dTru, dAndV, dOrV, dNotV, dTup, dLst, nF, nC, dFld, dSetF, dCall, dMeth, dMake, dPar, dPar3, dgTup, dgCons, dgNil, dAug, dAugS2, dAugF, dBM, dBM0, dChain, dYes, dSl, dPart, dNoPart, wSl, wLt, wLe, wGt, wGe, wI, wI0, wAdd, wSub, wMod, wDiv, wPow, wMul, wEq, wEqB, wNe, wIsN, wIsB, wLen, wInt, wMax2, wMin2, wI2, wIxA, wSet, wGetC, wIp, wTupleOf, wStrI, wIsi, wIn, wInT, wAppend, wPop, wInsert, wLM, wGet, dkey, startD, tru, dty, lq, dRevL, putD, CDiv, CMul, CPow, setc_same, setc_setc, hb, hD]
    have := hq x ls r (List.perm_middle (a := x) (l₁ := ls) (l₂ := r)).symm (fun y hy => by
        rcases List.mem_append.mp hy with hy | hy
        · exact hp y hy
        · exact pr.1 y hy) dl pr.2 (fun _ h => List.mem_cons_of_mem _ h)
    rw [setc_self (cs := cs) ha] at this
    refine ⟨0, ?_, _, rfl, this⟩
    simp [seqIndex?]
  unfold w_take_least
  refine cut (fun ρ' cs' => ρ' = [some (.cell a), some (.cell b)] ∧ cs = cs' ∧ ∃ x r, ps = x :: r ∧ ∀ y ∈ ls, x ≤ y) (fun B hB => ?_) ?_
  · refine cutif (fun c cs' => cs = cs' ∧ (c = true → ∃ r x, ls = r ++ [x] ∧ ∀ y ∈ ps, x ≤ y) ∧ (c = false → ∃ x r, ps = x :: r ∧ ∀ y ∈ ls, x ≤ y)) (fun B2 h2 => ?_) ?_ ?_
    · cases hps : ps with
      | nil =>
        rw [hps] at hb
        have : ls ≠ [] := fun e => by rw [e, hps] at h0; simp at h0
        obtain ⟨r, x, e⟩ := list_snoc this
        simp [-List.lookup_eq_none_iff, dSeq, dIf, dB, dOp, dVar, dC, dUn, dAsg, dCB, dCons, dNil, dgName, dgSub, dRet, dRetN, dDrop, dNext, dBreak, dCont, dNever, dIfE, dAnd, dOr, dNot, dTru, dAndV, dOrV, dNotV, dTup, dLst, nF, nC, dFld, dSetF, dCall, dMeth, dMake, dPar, dPar3, dgTup, dgCons, dgNil, dAug, dAugS2, dAugF, dBM, dBM0, dChain, dYes, dSl, dPart, dNoPart, wSl, wLt, wLe, wGt, wGe, wI, wI0, wAdd, wSub, wMod, wDiv, wPow, wMul, wEq, wEqB, wNe, wIsN, wIsB, wLen, wInt, wMax2, wMin2, wI2, wIxA, wSet, wGetC, wIp, wTupleOf, wStrI, wIsi, wIn, wInT, wAppend, wPop, wInsert, wLM, wGet, dkey, startD, tru, dty, lq, dRevL, putD, CDiv, CMul, CPow, setc_same, setc_setc, hb]
        exact h2 _ _ ⟨rfl, fun _ => ⟨r, x, e, by rw [hps]; simp⟩, fun z => by cases z⟩
      | cons y s =>
        rw [hps] at hb
        by_cases e0 : ls = []
        · rw [e0] at ha
          simp [-List.lookup_eq_none_iff, dSeq, dIf, dB, dOp, dVar, dC, dUn, dAsg, dCB, dCons, dNil, dgName, dgSub, dRet, dRetN, dDrop, dNext, dBreak, dCont, dNever, dIfE, dAnd, dOr, dNot, dTru, dAndV, dOrV, dNotV, dTup, dLst, nF, nC, dFld, dSetF, dCall, dMeth, dMake, dPar, dPar3, dgTup, dgCons, dgNil, dAug, dAugS2, dAugF, dBM, dBM0, dChain, dYes, dSl, dPart, dNoPart, wSl, wLt, wLe, wGt, wGe, wI, wI0, wAdd, wSub, wMod, wDiv, wPow, wMul, wEq, wEqB, wNe, wIsN, wIsB, wLen, wInt, wMax2, wMin2, wI2, wIxA, wSet, wGetC, wIp, wTupleOf, wStrI, wIsi, wIn, wInT, wAppend, wPop, wInsert, wLM, wGet, dkey, startD, tru, dty, lq, dRevL, putD, CDiv, CMul, CPow, setc_same, setc_setc, hb, ha]
          exact h2 _ _ ⟨rfl, (fun z => by cases z), fun _ => ⟨y, s, hps, by rw [e0]; simp⟩⟩
        · obtain ⟨r, x, e⟩ := list_snoc e0
          rw [e] at ha
          have la : atI (r.map D.int ++ [D.int x]) (-1) = some (.int x) := atI_last _ _
          have lb : atI (D.int y :: s.map D.int) 0 = some (.int y) := atI_nat (j := 0) rfl
          simp [-List.lookup_eq_none_iff, dSeq, dIf, dB, dOp, dVar, dC, dUn, dAsg, dCB, dCons, dNil, dgName, dgSub, dRet, dRetN, dDrop, dNext, dBreak, dCont, dNever, dIfE, dAnd, dOr, dNot, dTru, dAndV, dOrV, dNotV, dTup, dLst, nF, nC, dFld, dSetF, dCall, dMeth, dMake, dPar, dPar3, dgTup, dgCons, dgNil, dAug, dAugS2, dAugF, dBM, dBM0, dChain, dYes, dSl, dPart, dNoPart, wSl, wLt, wLe, wGt, wGe, wI, wI0, wAdd, wSub, wMod, wDiv, wPow, wMul, wEq, wEqB, wNe, wIsN, wIsB, wLen, wInt, wMax2, wMin2, wI2, wIxA, wSet, wGetC, wIp, wTupleOf, wStrI, wIsi, wIn, wInT, wAppend, wPop, wInsert, wLM, wGet, dkey, startD, tru, dty, lq, dRevL, putD, CDiv, CMul, CPow, setc_same, setc_setc, hb, ha, la, lb]
          have ps_ := hps ▸ dp
          have pr := List.pairwise_cons.mp ps_
          by_cases hxy : x ≤ y
          · rw [decide_eq_true hxy]
            refine h2 _ _ ⟨rfl, fun _ => ⟨r, x, e, fun w hw => ?_⟩, fun z => by cases z⟩
            rw [hps] at hw
            rcases List.mem_cons.mp hw with rfl | hw
            · exact hxy
            · have := pr.1 w hw; omega
          · rw [decide_eq_false hxy]
            refine h2 _ _ ⟨rfl, (fun z => by cases z), fun _ => ⟨y, s, hps, fun w hw => ?_⟩⟩
            have pl := List.pairwise_append.mp (e ▸ dl)
            rw [e] at hw
            rcases List.mem_append.mp hw with hw | hw
            · have := pl.2.2 w hw x (by simp); omega
            · have : w = x := by simpa using hw
              omega
    · rintro _ ⟨rfl, h, _⟩
      obtain ⟨r, x, e, hp⟩ := h rfl
      exact popL r x e hp _ rfl
    · rintro _ ⟨rfl, _, h⟩
      exact hB _ _ ⟨rfl, rfl, h rfl⟩
  · rintro _ _ ⟨rfl, rfl, x, r, e, h⟩
    exact popP x r e h _ rfl
theorem h_least_of (cl : Str → Addr) : DOk (P_least_of cl) (w_least_of cl) 5 := by
  rintro ds cs Φ Ψ ⟨t, ns, rfl, mid, n1, pm, hq⟩
  have odd := mid.odd
  unfold w_least_of
  rw [dassoc, dassoc]
  refine cut (fun ρ' cs' => ∃ a b, ∃ ls : List Int, ρ' = [some (.lst (ns.map D.int)), some (.cell a), some (.cell b), some (.int 0), none] ∧ cs a = none ∧ cs b = none ∧ a ≠ b ∧ cs' = setc (setc cs a (.lst (ls.map D.int))) b (.lst []) ∧ ls.Perm ns ∧ ls.Pairwise (· ≥ ·)) (fun B hB => ?_) ?_
  · simp [-List.lookup_eq_none_iff, dSeq, dIf, dB, dOp, dVar, dC, dUn, dAsg, dCB, dCons, dNil, dgName, dgSub, dRet, dRetN, dDrop, dNext, dBreak, dCont, dNever, dIfE, dAnd, dOr, dNot, dTru, dAndV, dOrV, dNotV, dTup, dLst, nF, nC, dFld, dSetF, dCall, dMeth, dMake, dPar, dPar3, dgTup, dgCons, dgNil, dAug, dAugS2, dAugF, dBM, dBM0, dChain, dYes, dSl, dPart, dNoPart, wSl, wLt, wLe, wGt, wGe, wI, wI0, wAdd, wSub, wMod, wDiv, wPow, wMul, wEq, wEqB, wNe, wIsN, wIsB, wLen, wInt, wMax2, wMin2, wI2, wIxA, wSet, wGetC, wIp, wTupleOf, wStrI, wIsi, wIn, wInT, wAppend, wPop, wInsert, wLM, wGet, dkey, startD, tru, dty, lq, dRevL, putD, CDiv, CMul, CPow, setc_same, setc_setc, dSortRev]
    refine ⟨ns, rfl, fun ls hp ho a h1 b h2 => hB _ _ ⟨a, b, ls, rfl, h1, ?_, ?_, rfl, hp, ho⟩⟩
    · have : b ≠ a := fun z => by rw [z, setc_same] at h2; cases h2
      rwa [setc_ne this] at h2
    · intro z; rw [z, setc_same] at h2; cases h2
  rintro _ _ ⟨a, b, ls, rfl, h1, h2, ne, rfl, hp, ho⟩
  refine cut (fun ρ' cs' => ∃ a b o, ρ' = [some (.lst (ns.map D.int)), some (.cell a), some (.cell b), some (.int (pairSum t)), o] ∧ Ext cs cs') (fun B hB => ?_) ?_
  · refine ⟨fun m ρ' cs' => ∃ i, ∃ ls ps : List Int, ∃ o, ρ' = [some (.lst (ns.map D.int)), some (.cell a), some (.cell b), some (.int (told t i)), o] ∧ cs' = setc (setc cs a (.lst (ls.map D.int))) b (.lst (ps.map D.int)) ∧ (ls ++ ps).Perm (av t i) ∧ ls.Pairwise (· ≥ ·) ∧ ps.Pairwise (· ≤ ·) ∧
      (∀ x ∈ ps, ∃ j, j < i ∧ x = t.c (2 * j) + t.c (2 * j + 1)) ∧ 2 * i < t.n ∧ m = t.n - i, ⟨_, 0, ls, [], none, rfl, rfl, by rw [List.append_nil]; exact hp.trans pm, ho, .nil, by simp, by omega, rfl⟩, ?_⟩
    rintro m _ _ ⟨i, ls, ps, o, rfl, rfl, hperm, hl, hps, hj, hi, hm⟩
    have len : ls.length + ps.length = (t.n + 1) / 2 - i := by
      rw [← av_len mid i hi, ← hperm.length_eq, List.length_append]
    simp [-List.lookup_eq_none_iff, dSeq, dIf, dB, dOp, dVar, dC, dUn, dAsg, dCB, dCons, dNil, dgName, dgSub, dRet, dRetN, dDrop, dNext, dBreak, dCont, dNever, dIfE, dAnd, dOr, dNot, dTru, dAndV, dOrV, dNotV, dTup, dLst, nF, nC, dFld, dSetF, dCall, dMeth, dMake, dPar, dPar3, dgTup, dgCons, dgNil, dAug, dAugS2, dAugF, dBM, dBM0, dChain, dYes, dSl, dPart, dNoPart, wSl, wLt, wLe, wGt, wGe, wI, wI0, wAdd, wSub, wMod, wDiv, wPow, wMul, wEq, wEqB, wNe, wIsN, wIsB, wLen, wInt, wMax2, wMin2, wI2, wIxA, wSet, wGetC, wIp, wTupleOf, wStrI, wIsi, wIn, wInT, wAppend, wPop, wInsert, wLM, wGet, dkey, startD, tru, dty, lq, dRevL, putD, CDiv, CMul, CPow, setc_same, setc_setc, setc_ne ne]
    by_cases hlt : 2 * i + 1 < t.n
    · rw [if_pos (by omega)]
      refine ⟨a, b, ls, ps, rfl, ne, by rw [setc_ne ne, setc_same], setc_same, hl, hps, by omega, by omega, fun v1 l1 p1 q1 m1 d1 s1 i1 => ?_⟩
      obtain ⟨e1, q1'⟩ := take_one mid hlt (q1.trans hperm) m1
      have len1 : l1.length + p1.length = (t.n + 1) / 2 - i - 1 := by
        have := q1.length_eq
        simp only [List.length_cons, List.length_append] at this
        omega
      refine ⟨a, b, l1, p1, rfl, ne, by rw [setc_ne ne, setc_same], setc_same, d1, s1, by omega, by omega, fun v2 l2 p2 q2 m2 d2 s2 i2 => ?_⟩
      obtain ⟨e2, q2'⟩ := take_two mid hlt (q2.trans q1') m2
      have col : ∀ {x y z w : Ct}, setc (setc (setc (setc cs a x) b y) a z) b w = setc (setc cs a z) b w := fun {x y z w} => by
        rw [setc_comm ne.symm, setc_setc, setc_setc]
      have len2 : l2.length + p2.length + 1 = l1.length + p1.length := by
        have := q2.length_eq
        simp only [List.length_cons, List.length_append] at this
        omega
      simp [-List.lookup_eq_none_iff, dSeq, dIf, dB, dOp, dVar, dC, dUn, dAsg, dCB, dCons, dNil, dgName, dgSub, dRet, dRetN, dDrop, dNext, dBreak, dCont, dNever, dIfE, dAnd, dOr, dNot, dTru, dAndV, dOrV, dNotV, dTup, dLst, nF, nC, dFld, dSetF, dCall, dMeth, dMake, dPar, dPar3, dgTup, dgCons, dgNil, dAug, dAugS2, dAugF, dBM, dBM0, dChain, dYes, dSl, dPart, dNoPart, wSl, wLt, wLe, wGt, wGe, wI, wI0, wAdd, wSub, wMod, wDiv, wPow, wMul, wEq, wEqB, wNe, wIsN, wIsB, wLen, wInt, wMax2, wMin2, wI2, wIxA, wSet, wGetC, wIp, wTupleOf, wStrI, wIsi, wIn, wInT, wAppend, wPop, wInsert, wLM, wGet, dkey, startD, tru, dty, lq, dRevL, putD, CDiv, CMul, CPow, setc_same, setc_setc, col, setc_ne ne]
      refine ⟨by omega, t.n - (i + 1), by omega, i + 1, ?_, l2, p2 ++ [v1 + v2], by simp, ?_, d2, ?_, ?_, by omega, rfl⟩
      · rw [told_succ, e1, e2]
      · refine List.Perm.trans ?_ (av_next mid hlt).symm
        rw [← List.append_assoc, e1, e2]
        exact (List.perm_append_singleton _ _).trans (q2'.cons _)
      · refine List.pairwise_append.mpr ⟨s2, by simp, fun x hx y hy => ?_⟩
        have : y = v1 + v2 := by simpa using hy
        obtain ⟨j, hji, ex⟩ := hj x (i1 x (i2 x hx))
        have a1 := mid.mono (i := 2 * j) (j := 2 * i) (by omega) (by omega)
        have a2 := mid.mono (i := 2 * j + 1) (j := 2 * i + 1) (by omega) (by omega)
        omega
      · intro x hx
        rcases List.mem_append.mp hx with hx | hx
        · obtain ⟨j, hji, ex⟩ := hj x (i1 x (i2 x hx)); exact ⟨j, by omega, ex⟩
        · exact ⟨i, by omega, by have : x = v1 + v2 := by simpa using hx
                                 omega⟩
    · rw [if_neg (by omega)]
      have ei : i = (t.n - 1) / 2 := by omega
      refine hB _ _ ⟨a, b, o, by rw [pairSum_told mid, ei], fun x c hx => ?_⟩
      rw [setc_ne (ne_of_cs hx h2), setc_ne (ne_of_cs hx h1)]; exact hx
  · rintro _ cs2 ⟨a, b, o, rfl, e⟩
    simp [-List.lookup_eq_none_iff, dSeq, dIf, dB, dOp, dVar, dC, dUn, dAsg, dCB, dCons, dNil, dgName, dgSub, dRet, dRetN, dDrop, dNext, dBreak, dCont, dNever, dIfE, dAnd, dOr, dNot, dTru, dAndV, dOrV, dNotV, dTup, dLst, nF, nC, dFld, dSetF, dCall, dMeth, dMake, dPar, dPar3, dgTup, dgCons, dgNil, dAug, dAugS2, dAugF, dBM, dBM0, dChain, dYes, dSl, dPart, dNoPart, wSl, wLt, wLe, wGt, wGe, wI, wI0, wAdd, wSub, wMod, wDiv, wPow, wMul, wEq, wEqB, wNe, wIsN, wIsB, wLen, wInt, wMax2, wMin2, wI2, wIxA, wSet, wGetC, wIp, wTupleOf, wStrI, wIsi, wIn, wInT, wAppend, wPop, wInsert, wLM, wGet, dkey, startD, tru, dty, lq, dRevL, putD, CDiv, CMul, CPow, setc_same, setc_setc]
    exact hq cs2 e
end LS
namespace LS
open PySem PySem.Spec PyProof.Rows L2 DL
theorem sum_map {α : Type} {l : List α} {f : α → Int} : ∃ ns : List Int, l.map (fun x => D.int (f x)) = ns.map D.int ∧ ns.sum = (l.map f).sum := ⟨l.map f, by rw [List.map_map]; rfl, rfl⟩
theorem h_sum_of (cl : Str → Addr) : DOk (P_sum_of cl) (w_sum_of cl) 4 := by
  rintro ds cs Φ Ψ ⟨t, rfl, r, n1, hq⟩
  simp [-List.lookup_eq_none_iff, dSeq, dIf, dB, dOp, dVar, dC, dUn, dAsg, dCB, dCons, dNil, dgName, dgSub, dRet, dRetN, dDrop, dNext, dBreak, dCont, dNever, dIfE, dAnd, dOr, dNot, dTru, dAndV, dOrV, dNotV, dTup, dLst, nF, nC, dFld, dSetF, dCall, dMeth, dMake, dPar, dPar3, dgTup, dgCons, dgNil, dAug, dAugS2, dAugF, dBM, dBM0, dChain, dYes, dSl, dPart, dNoPart, wSl, wLt, wLe, wGt, wGe, wI, wI0, wAdd, wSub, wMod, wDiv, wPow, wMul, wEq, wEqB, wNe, wIsN, wIsB, wLen, wInt, wMax2, wMin2, wI2, wIxA, wSet, wGetC, wIp, wTupleOf, wStrI, wIsi, wIn, wInT, wAppend, wPop, wInsert, wLM, wGet, dkey, startD, tru, dty, lq, dRevL, putD, CDiv, CMul, CPow, setc_same, setc_setc, w_sum_of]
  refine ⟨t, rfl, r, n1, fun cs1 e1 => ?_⟩
  simp [-List.lookup_eq_none_iff, dSeq, dIf, dB, dOp, dVar, dC, dUn, dAsg, dCB, dCons, dNil, dgName, dgSub, dRet, dRetN, dDrop, dNext, dBreak, dCont, dNever, dIfE, dAnd, dOr, dNot, dTru, dAndV, dOrV, dNotV, dTup, dLst, nF, nC, dFld, dSetF, dCall, dMeth, dMake, dPar, dPar3, dgTup, dgCons, dgNil, dAug, dAugS2, dAugF, dBM, dBM0, dChain, dYes, dSl, dPart, dNoPart, wSl, wLt, wLe, wGt, wGe, wI, wI0, wAdd, wSub, wMod, wDiv, wPow, wMul, wEq, wEqB, wNe, wIsN, wIsB, wLen, wInt, wMax2, wMin2, wI2, wIxA, wSet, wGetC, wIp, wTupleOf, wStrI, wIsi, wIn, wInT, wAppend, wPop, wInsert, wLM, wGet, dkey, startD, tru, dty, lq, dRevL, putD, CDiv, CMul, CPow, setc_same, setc_setc, dLc_eq, diSeq, eRow, wSum]
  refine lc_lv (f := fun j => D.int (t.c j)) (p := fun j => decide (t.k j = -1)) trivial (by omega) (fun i hi B1 B2 h1 h2 => ?_) ?_
  · simp [-List.lookup_eq_none_iff, dSeq, dIf, dB, dOp, dVar, dC, dUn, dAsg, dCB, dCons, dNil, dgName, dgSub, dRet, dRetN, dDrop, dNext, dBreak, dCont, dNever, dIfE, dAnd, dOr, dNot, dTru, dAndV, dOrV, dNotV, dTup, dLst, nF, nC, dFld, dSetF, dCall, dMeth, dMake, dPar, dPar3, dgTup, dgCons, dgNil, dAug, dAugS2, dAugF, dBM, dBM0, dChain, dYes, dSl, dPart, dNoPart, wSl, wLt, wLe, wGt, wGe, wI, wI0, wAdd, wSub, wMod, wDiv, wPow, wMul, wEq, wEqB, wNe, wIsN, wIsB, wLen, wInt, wMax2, wMin2, wI2, wIxA, wSet, wGetC, wIp, wTupleOf, wStrI, wIsi, wIn, wInT, wAppend, wPop, wInsert, wLM, wGet, dkey, startD, tru, dty, lq, dRevL, putD, CDiv, CMul, CPow, setc_same, setc_setc, wipeD, eJ]
    by_cases e : t.k i = -1
    · rw [if_pos e]; exact h1 (by simp [e])
    · rw [if_neg e]; exact h2 (by simp [e])
  · refine ⟨_, rfl, (((List.range t.n).filter fun j => decide (t.k j = -1)).map t.c), by rw [List.map_map]; rfl, ?_⟩
    exact hq cs1 e1
theorem code2 {x y : Int} : TS.code 1048576 [x, y] = x * 1048576 + y := by
  simp [TS.code]
theorem bd2 {x y : Int} (h1 : 0 ≤ x) (h2 : x < 1048576) (h3 : 0 ≤ y) (h4 : y < 1048576) : TS.Bd 1048576 [x, y] := by
  unfold TS.Bd
  simp
  omega
def pr (p : Int × Int) : List Int := [p.1, p.2]
def unpr (ns : List Int) : Int × Int := (ns.getD 0 0, ns.getD 1 0)
theorem perm_pr {nss : List (List Int)} {pl : List (Int × Int)} (h : nss.Perm (pl.map pr)) : ∃ l : List (Int × Int), nss = l.map pr ∧ l.Perm pl := by
  refine ⟨nss.map unpr, ?_, ?_⟩
  · rw [List.map_map]
    have : nss.map id = nss.map (pr ∘ unpr) := by
      apply List.map_congr_left
      intro ns hns
      obtain ⟨p, _, rfl⟩ := List.mem_map.mp (h.mem_iff.mp hns)
      rfl
    simpa using this
  · have := h.map unpr
    rw [List.map_map] at this
    have e : pl.map (unpr ∘ pr) = pl := by
      have : pl.map (unpr ∘ pr) = pl.map id := by apply List.map_congr_left; intro p _; rfl
      simpa using this
    rwa [e] at this
theorem tup_pr {l : List (Int × Int)} : (l.map pr).map tupI = l.map fun p => D.tup [.int p.1, .int p.2] := by rw [List.map_map]; rfl
/-- the letters' places -/
def lt_ (t : T) : List Nat := (List.range t.n).filter fun j => !(decide (t.k j = -1) || decide (t.k j = 256))
theorem lt_mem {t : T} {j : Nat} : j ∈ lt_ t ↔ j < t.n ∧ t.k j ≠ -1 ∧ t.k j ≠ 256 := by
  unfold lt_; rw [List.mem_filter, List.mem_range]; simp
theorem CL_of {t : T} (r : Right t) {l : List (Int × Int)} (pm : l.Perm ((lt_ t).map fun j => (t.k j, t.c j))) (pw : l.Pairwise fun p q => p.1 * 1048576 + p.2 ≤ q.1 * 1048576 + q.2) : CL t l := by
  have mem : ∀ p, p ∈ l ↔ ∃ j, j < t.n ∧ t.k j ≠ -1 ∧ t.k j ≠ 256 ∧ p = (t.k j, t.c j) := fun p => by
    rw [pm.mem_iff, List.mem_map]
    constructor
    · rintro ⟨j, hj, rfl⟩
      obtain ⟨a, b, c⟩ := lt_mem.mp hj
      exact ⟨j, a, b, c, rfl⟩
    · rintro ⟨j, a, b, c, rfl⟩
      exact ⟨j, lt_mem.mpr ⟨a, b, c⟩, rfl⟩
  have nd : l.Pairwise fun p q => p.1 ≠ q.1 := by
    have h : ((lt_ t).map fun j => (t.k j, t.c j)).Pairwise fun p q => p.1 ≠ q.1 := by
      rw [List.pairwise_map]
      refine List.Pairwise.imp_of_mem ?_ ((List.nodup_range (n := t.n)).filter _)
      intro a b ha hb ne e
      have ha := lt_mem.mp ha
      have hb := lt_mem.mp hb
      exact ne (r.mid.dist a b ha.1 hb.1 (by have := r.mid.kd a ha.1; omega) e)
    exact pm.symm.pairwise h (fun {a b} ne => Ne.symm ne)
  refine ⟨?_, fun z v => ?_⟩
  · refine List.Pairwise.imp_of_mem ?_ (nd.and pw)
    rintro p q hp hq ⟨ne, le⟩
    obtain ⟨i, hi, a1, a2, rfl⟩ := (mem p).mp hp
    obtain ⟨j, hj, b1, b2, rfl⟩ := (mem q).mp hq
    have ci := r.top i hi (by have := r.mid.kd i hi; omega)
    have cj := r.top j hj (by have := r.mid.kd j hj; omega)
    have di := r.c1 i hi
    have dj := r.c1 j hj
    dsimp only at ne le ⊢
    omega
  · rw [mem]
    constructor
    · rintro ⟨j, hj, a, b, e⟩
      obtain ⟨rfl, rfl⟩ := Prod.mk.inj e
      exact ⟨by have := r.mid.kd j hj; omega, b, j, hj, rfl, rfl⟩
    · rintro ⟨h0, ne, j, hj, rfl, rfl⟩
      exact ⟨j, hj, by omega, ne, rfl⟩
theorem lt_len {t : T} (h : Shape t) : (lt_ t).length ≤ (t.n + 1) / 2 := by
  refine Nat.le_trans (nodup_le ((List.nodup_range (n := t.n)).filter _) fun x hx => ?_) (lv_len h)
  have := lt_mem.mp hx
  exact lv_mem.mpr ⟨this.1, this.2.1⟩
theorem h_counts_in (cl : Str → Addr) : DOk (P_counts_in cl) (w_counts_in cl) 4 := by
  rintro ds cs Φ Ψ ⟨t, rfl, r, n1, hq⟩
  have ll := lt_len r.mid.toShape
  simp [-List.lookup_eq_none_iff, dSeq, dIf, dB, dOp, dVar, dC, dUn, dAsg, dCB, dCons, dNil, dgName, dgSub, dRet, dRetN, dDrop, dNext, dBreak, dCont, dNever, dIfE, dAnd, dOr, dNot, dTru, dAndV, dOrV, dNotV, dTup, dLst, nF, nC, dFld, dSetF, dCall, dMeth, dMake, dPar, dPar3, dgTup, dgCons, dgNil, dAug, dAugS2, dAugF, dBM, dBM0, dChain, dYes, dSl, dPart, dNoPart, wSl, wLt, wLe, wGt, wGe, wI, wI0, wAdd, wSub, wMod, wDiv, wPow, wMul, wEq, wEqB, wNe, wIsN, wIsB, wLen, wInt, wMax2, wMin2, wI2, wIxA, wSet, wGetC, wIp, wTupleOf, wStrI, wIsi, wIn, wInT, wAppend, wPop, wInsert, wLM, wGet, dkey, startD, tru, dty, lq, dRevL, putD, CDiv, CMul, CPow, setc_same, setc_setc, w_counts_in]
  refine ⟨t, rfl, r, n1, fun cs1 e1 => ?_⟩
  simp [-List.lookup_eq_none_iff, dSeq, dIf, dB, dOp, dVar, dC, dUn, dAsg, dCB, dCons, dNil, dgName, dgSub, dRet, dRetN, dDrop, dNext, dBreak, dCont, dNever, dIfE, dAnd, dOr, dNot, dTru, dAndV, dOrV, dNotV, dTup, dLst, nF, nC, dFld, dSetF, dCall, dMeth, dMake, dPar, dPar3, dgTup, dgCons, dgNil, dAug, dAugS2, dAugF, dBM, dBM0, dChain, dYes, dSl, dPart, dNoPart, wSl, wLt, wLe, wGt, wGe, wI, wI0, wAdd, wSub, wMod, wDiv, wPow, wMul, wEq, wEqB, wNe, wIsN, wIsB, wLen, wInt, wMax2, wMin2, wI2, wIxA, wSet, wGetC, wIp, wTupleOf, wStrI, wIsi, wIn, wInT, wAppend, wPop, wInsert, wLM, wGet, dkey, startD, tru, dty, lq, dRevL, putD, CDiv, CMul, CPow, setc_same, setc_setc, dLc_eq, diSeq, eRow, wSortP]
  refine lc_lv (f := fun j => D.tup [.int (t.k j), .int (t.c j)]) (p := fun j => !(decide (t.k j = -1) || decide (t.k j = 256))) trivial (by omega) (fun i hi B1 B2 h1 h2 => ?_) ?_
  · simp [-List.lookup_eq_none_iff, dSeq, dIf, dB, dOp, dVar, dC, dUn, dAsg, dCB, dCons, dNil, dgName, dgSub, dRet, dRetN, dDrop, dNext, dBreak, dCont, dNever, dIfE, dAnd, dOr, dNot, dTru, dAndV, dOrV, dNotV, dTup, dLst, nF, nC, dFld, dSetF, dCall, dMeth, dMake, dPar, dPar3, dgTup, dgCons, dgNil, dAug, dAugS2, dAugF, dBM, dBM0, dChain, dYes, dSl, dPart, dNoPart, wSl, wLt, wLe, wGt, wGe, wI, wI0, wAdd, wSub, wMod, wDiv, wPow, wMul, wEq, wEqB, wNe, wIsN, wIsB, wLen, wInt, wMax2, wMin2, wI2, wIxA, wSet, wGetC, wIp, wTupleOf, wStrI, wIsi, wIn, wInT, wAppend, wPop, wInsert, wLM, wGet, dkey, startD, tru, dty, lq, dRevL, putD, CDiv, CMul, CPow, setc_same, setc_setc, wipeD, eJ, flatD, deq]
    by_cases e : t.k i = -1
    · simp [e] at h2 ⊢; exact h2
    · by_cases e2 : t.k i = 256
      · simp [e2] at h2 ⊢; exact h2
      · have n1 : ¬ (-1 = t.k i) := fun z => e z.symm
        have n2 : ¬ (256 = t.k i) := fun z => e2 z.symm
        simp [e, e2, n1, n2] at h1 ⊢; exact h1
  · refine ⟨_, rfl, ((lt_ t).map fun j => (t.k j, t.c j)).map pr, ?_, ?_, ?_⟩
    · rw [tup_pr, List.map_map]; rfl
    · intro ns hns
      obtain ⟨p, hp, rfl⟩ := List.mem_map.mp hns
      obtain ⟨j, hj, rfl⟩ := List.mem_map.mp hp
      obtain ⟨a, b, c⟩ := lt_mem.mp hj
      have k0 := r.mid.kd j a
      have ci := r.top j a (by omega)
      have di := r.c1 j a
      exact ⟨rfl, bd2 (by omega) (by omega) (by omega) (by omega)⟩
    · intro nss hp hw
      obtain ⟨l, rfl, pm⟩ := perm_pr hp
      rw [tup_pr]
      refine hq l cs1 (CL_of r pm ?_) e1
      rw [List.pairwise_map] at hw
      exact hw.imp fun {p q} h => by
        rw [show pr p = [p.1, p.2] from rfl, show pr q = [q.1, q.2] from rfl, code2, code2] at h
        exact h
theorem sorted_cons {x : Int} {r : List Int} (h : (x :: r).Pairwise (· ≤ ·)) : (∀ y ∈ r, x ≤ y) ∧ r.Pairwise (· ≤ ·) := List.pairwise_cons.mp h
theorem h__law_least (cl : Str → Addr) : DOk (P__law_least cl) (w__law_least cl) 7 := by
  rintro ds cs Φ Ψ ⟨t, l, rfl, l1, mid, n1, pm, hq⟩
  have odd := mid.odd
  have ln : l.length = (t.n + 1) / 2 - 1 := by
    have := pm.length_eq
    rw [av_len mid 0 (by omega)] at this
    simp at this
    omega
  unfold w__law_least
  refine cut (fun ρ' cs' => ∃ w : List Int, ρ' = [some (eC l), some (.lst (w.map D.int)), some (.int (told t 0)), none, none, none, none] ∧ cs = cs' ∧ w.Perm (av t 0)) (fun B hB => ?_) ?_
  · simp [-List.lookup_eq_none_iff, dSeq, dIf, dB, dOp, dVar, dC, dUn, dAsg, dCB, dCons, dNil, dgName, dgSub, dRet, dRetN, dDrop, dNext, dBreak, dCont, dNever, dIfE, dAnd, dOr, dNot, dTru, dAndV, dOrV, dNotV, dTup, dLst, nF, nC, dFld, dSetF, dCall, dMeth, dMake, dPar, dPar3, dgTup, dgCons, dgNil, dAug, dAugS2, dAugF, dBM, dBM0, dChain, dYes, dSl, dPart, dNoPart, wSl, wLt, wLe, wGt, wGe, wI, wI0, wAdd, wSub, wMod, wDiv, wPow, wMul, wEq, wEqB, wNe, wIsN, wIsB, wLen, wInt, wMax2, wMin2, wI2, wIxA, wSet, wGetC, wIp, wTupleOf, wStrI, wIsi, wIn, wInT, wAppend, wPop, wInsert, wLM, wGet, dkey, startD, tru, dty, lq, dRevL, putD, CDiv, CMul, CPow, setc_same, setc_setc, dLc_eq, diSeq, eC]
    refine lc_mapL (f := fun p => D.int p.2) trivial (by omega) (fun x hx B hB => ?_) ?_
    · simp [-List.lookup_eq_none_iff, dSeq, dIf, dB, dOp, dVar, dC, dUn, dAsg, dCB, dCons, dNil, dgName, dgSub, dRet, dRetN, dDrop, dNext, dBreak, dCont, dNever, dIfE, dAnd, dOr, dNot, dTru, dAndV, dOrV, dNotV, dTup, dLst, nF, nC, dFld, dSetF, dCall, dMeth, dMake, dPar, dPar3, dgTup, dgCons, dgNil, dAug, dAugS2, dAugF, dBM, dBM0, dChain, dYes, dSl, dPart, dNoPart, wSl, wLt, wLe, wGt, wGe, wI, wI0, wAdd, wSub, wMod, wDiv, wPow, wMul, wEq, wEqB, wNe, wIsN, wIsB, wLen, wInt, wMax2, wMin2, wI2, wIxA, wSet, wGetC, wIp, wTupleOf, wStrI, wIsi, wIn, wInT, wAppend, wPop, wInsert, wLM, wGet, dkey, startD, tru, dty, lq, dRevL, putD, CDiv, CMul, CPow, setc_same, setc_setc, wipeD]; exact hB
    · simp [-List.lookup_eq_none_iff, dSeq, dIf, dB, dOp, dVar, dC, dUn, dAsg, dCB, dCons, dNil, dgName, dgSub, dRet, dRetN, dDrop, dNext, dBreak, dCont, dNever, dIfE, dAnd, dOr, dNot, dTru, dAndV, dOrV, dNotV, dTup, dLst, nF, nC, dFld, dSetF, dCall, dMeth, dMake, dPar, dPar3, dgTup, dgCons, dgNil, dAug, dAugS2, dAugF, dBM, dBM0, dChain, dYes, dSl, dPart, dNoPart, wSl, wLt, wLe, wGt, wGe, wI, wI0, wAdd, wSub, wMod, wDiv, wPow, wMul, wEq, wEqB, wNe, wIsN, wIsB, wLen, wInt, wMax2, wMin2, wI2, wIxA, wSet, wGetC, wIp, wTupleOf, wStrI, wIsi, wIn, wInT, wAppend, wPop, wInsert, wLM, wGet, dkey, startD, tru, dty, lq, dRevL, putD, CDiv, CMul, CPow, setc_same, setc_setc]
      refine ⟨by omega, hB _ _ ⟨1 :: l.map Prod.snd, ?_, rfl, pm⟩⟩
      simp [told, eC]
  rintro _ _ ⟨w, rfl, rfl, pw⟩
  refine cut (fun ρ' cs' => ∃ w o3 o4, ρ' = [some (eC l), w, some (.int (pairSum t)), o3, o4, none, none] ∧ cs = cs') (fun B hB => ?_) ?_
  · rw [dFor_eq]
    show -(2 ^ 62) ≤ (((l.map fun p => D.tup [.int p.1, .int p.2]).length : Nat) : Int) ∧ (((l.map fun p => D.tup [.int p.1, .int p.2]).length : Nat) : Int) < 2 ^ 62 ∧ ForOk _ _ _ _ (rng 0 ((((l.map fun p => D.tup [.int p.1, .int p.2]).length : Nat) : Int)).toNat) _ _
    rw [List.length_map, Int.toNat_natCast]
    refine ⟨by omega, by omega, ?_⟩
    refine for_gen (fun i ρ' cs' => ∃ w : List Int, ∃ o3 o4, ρ' = [some (eC l), some (.lst (w.map D.int)), some (.int (told t i)), o3, o4, none, none] ∧ cs = cs' ∧ w.Perm (av t i)) ⟨w, none, none, rfl, rfl, pw⟩ (fun _ _ _ _ => trivial) ?_ ?_
    · rintro i _ _ x ⟨w, o3, o4, rfl, rfl, pw⟩ hx B hB
      obtain ⟨hi, rfl⟩ := rng_get hx
      have hlt : 2 * i + 1 < t.n := by omega
      simp [-List.lookup_eq_none_iff, dSeq, dIf, dB, dOp, dVar, dC, dUn, dAsg, dCB, dCons, dNil, dgName, dgSub, dRet, dRetN, dDrop, dNext, dBreak, dCont, dNever, dIfE, dAnd, dOr, dNot, dTru, dAndV, dOrV, dNotV, dTup, dLst, nF, nC, dFld, dSetF, dCall, dMeth, dMake, dPar, dPar3, dgTup, dgCons, dgNil, dAug, dAugS2, dAugF, dBM, dBM0, dChain, dYes, dSl, dPart, dNoPart, wSl, wLt, wLe, wGt, wGe, wI, wI0, wAdd, wSub, wMod, wDiv, wPow, wMul, wEq, wEqB, wNe, wIsN, wIsB, wLen, wInt, wMax2, wMin2, wI2, wIxA, wSet, wGetC, wIp, wTupleOf, wStrI, wIsi, wIn, wInT, wAppend, wPop, wInsert, wLM, wGet, dkey, startD, tru, dty, lq, dRevL, putD, CDiv, CMul, CPow, setc_same, setc_setc, wSortI]
      refine ⟨w, rfl, fun ws hp ho => ?_⟩
      have len := (hp.trans pw).length_eq
      rw [av_len mid i (by omega)] at len
      obtain ⟨v1, r1, rfl⟩ : ∃ v r, ws = v :: r := by cases ws with
        | nil => simp at len; omega
        | cons v r => exact ⟨v, r, rfl⟩
      obtain ⟨m1, o1⟩ := sorted_cons ho
      obtain ⟨e1, q1⟩ := take_one mid hlt (hp.trans pw) m1
      obtain ⟨v2, r2, rfl⟩ : ∃ v r, r1 = v :: r := by cases r1 with
        | nil => have := q1.length_eq; simp at this
        | cons v r => exact ⟨v, r, rfl⟩
      obtain ⟨m2, o2⟩ := sorted_cons o1
      obtain ⟨e2, q2⟩ := take_two mid hlt q1 m2
      have a0 : atI (D.int v1 :: D.int v2 :: r2.map D.int) 0 = some (.int v1) := atI_nat (j := 0) rfl
      have a1 : atI (D.int v1 :: D.int v2 :: r2.map D.int) 1 = some (.int v2) := atI_nat (j := 1) rfl
      have c2 : DL.cutD (D.int v1 :: D.int v2 :: r2.map D.int) (some 2) none = r2.map D.int := by
        unfold DL.cutD
        rw [show HT.sIx (D.int v1 :: D.int v2 :: r2.map D.int).length 0 (some 2) = 2 from by
          have := HT.sIx_nat (D.int v1 :: D.int v2 :: r2.map D.int).length 0 2
          rw [show ((2 : Nat) : Int) = 2 from rfl] at this
          rw [this]; simp, HT.sIx_none]
        simp
        exact List.take_of_length_le (by simp)
      simp [-List.lookup_eq_none_iff, dSeq, dIf, dB, dOp, dVar, dC, dUn, dAsg, dCB, dCons, dNil, dgName, dgSub, dRet, dRetN, dDrop, dNext, dBreak, dCont, dNever, dIfE, dAnd, dOr, dNot, dTru, dAndV, dOrV, dNotV, dTup, dLst, nF, nC, dFld, dSetF, dCall, dMeth, dMake, dPar, dPar3, dgTup, dgCons, dgNil, dAug, dAugS2, dAugF, dBM, dBM0, dChain, dYes, dSl, dPart, dNoPart, wSl, wLt, wLe, wGt, wGe, wI, wI0, wAdd, wSub, wMod, wDiv, wPow, wMul, wEq, wEqB, wNe, wIsN, wIsB, wLen, wInt, wMax2, wMin2, wI2, wIxA, wSet, wGetC, wIp, wTupleOf, wStrI, wIsi, wIn, wInT, wAppend, wPop, wInsert, wLM, wGet, dkey, startD, tru, dty, lq, dRevL, putD, CDiv, CMul, CPow, setc_same, setc_setc, a0, a1, c2, lm]
      refine ⟨by simp at len; omega, hB _ _ ⟨r2 ++ [v1 + v2], some (.int (i : Int)), some (.int (v1 + v2)), ?_, rfl, ?_⟩⟩
      · rw [told_succ, e1, e2]; simp
      · refine List.Perm.trans ?_ (av_next mid hlt).symm
        rw [e1, e2]
        exact (List.perm_append_singleton _ _).trans (q2.cons _)
    · rintro _ _ ⟨w, o3, o4, rfl, rfl, pw⟩
      rw [rng_length, show l.length = (t.n - 1) / 2 by omega, ← pairSum_told mid]
      exact hB _ _ ⟨_, o3, o4, rfl, rfl⟩
  · rintro _ _ ⟨w, o3, o4, rfl, rfl⟩
    simp [-List.lookup_eq_none_iff, dSeq, dIf, dB, dOp, dVar, dC, dUn, dAsg, dCB, dCons, dNil, dgName, dgSub, dRet, dRetN, dDrop, dNext, dBreak, dCont, dNever, dIfE, dAnd, dOr, dNot, dTru, dAndV, dOrV, dNotV, dTup, dLst, nF, nC, dFld, dSetF, dCall, dMeth, dMake, dPar, dPar3, dgTup, dgCons, dgNil, dAug, dAugS2, dAugF, dBM, dBM0, dChain, dYes, dSl, dPart, dNoPart, wSl, wLt, wLe, wGt, wGe, wI, wI0, wAdd, wSub, wMod, wDiv, wPow, wMul, wEq, wEqB, wNe, wIsN, wIsB, wLen, wInt, wMax2, wMin2, wI2, wIxA, wSet, wGetC, wIp, wTupleOf, wStrI, wIsi, wIn, wInT, wAppend, wPop, wInsert, wLM, wGet, dkey, startD, tru, dty, lq, dRevL, putD, CDiv, CMul, CPow, setc_same, setc_setc]
    exact hq
end LS
namespace LS
open PySem PySem.Spec PyProof.Rows L2 DL
theorem atI_mem {α : Type} {xs : List α} {g : Int} (h0 : 0 ≤ g) (h1 : g < xs.length) : ∃ d, d ∈ xs ∧ atI xs g = some d := by
  obtain ⟨d, e1, e2⟩ := atI_ok h0 h1
  exact ⟨d, List.mem_of_getElem? e1, e2⟩
theorem Only.trans {a : Addr} {cs cs1 cs2 : Cs} (h : Only a cs cs1) (k : Only a cs1 cs2) : Only a cs cs2 := fun b hb => (k b hb).trans (h b hb)
theorem Only.refl {a : Addr} {cs : Cs} : Only a cs cs := fun _ _ => rfl
theorem Only.kp {a : Addr} {cs cs1 : Cs} (h : Only a cs cs1) : Kp a cs cs1 := fun b c hb e => (h b hb).trans e
theorem Kp.trans {a : Addr} {cs cs1 cs2 : Cs} (h : Kp a cs cs1) (k : Kp a cs1 cs2) : Kp a cs cs2 := fun b c hb e => k b c hb (h b c hb e)
theorem Src.some {cs : Cs} {a : Addr} (h : Src cs a) : ∃ c, cs a = some c := by
  obtain ⟨x, y, _, _, _, e⟩ := h; exact ⟨_, e⟩
theorem h__law_one (cl : Str → Addr) : DOk (P__law_one cl) (w__law_one cl) 2 := by
  rintro ds cs Φ Ψ ⟨a, xs, rfl, sr, h0, h1, hq⟩
  simp [-List.lookup_eq_none_iff, dSeq, dIf, dB, dOp, dVar, dC, dUn, dAsg, dCB, dCons, dNil, dgName, dgSub, dRet, dRetN, dDrop, dNext, dBreak, dCont, dNever, dIfE, dAnd, dOr, dNot, dTru, dAndV, dOrV, dNotV, dTup, dLst, nF, nC, dFld, dSetF, dCall, dMeth, dMake, dPar, dPar3, dgTup, dgCons, dgNil, dAug, dAugS2, dAugF, dBM, dBM0, dChain, dYes, dSl, dPart, dNoPart, wSl, wLt, wLe, wGt, wGe, wI, wI0, wAdd, wSub, wMod, wDiv, wPow, wMul, wEq, wEqB, wNe, wIsN, wIsB, wLen, wInt, wMax2, wMin2, wI2, wIxA, wSet, wGetC, wIp, wTupleOf, wStrI, wIsi, wIn, wInT, wAppend, wPop, wInsert, wLM, wGet, dkey, startD, tru, dty, lq, dRevL, putD, CDiv, CMul, CPow, setc_same, setc_setc, w__law_one]
  refine ⟨a, xs.length, rfl, sr, by omega, by omega, fun cs1 g s1 o1 g0 g1 => ?_⟩
  obtain ⟨d, hd, e⟩ := atI_mem g0 g1
  simp [-List.lookup_eq_none_iff, dSeq, dIf, dB, dOp, dVar, dC, dUn, dAsg, dCB, dCons, dNil, dgName, dgSub, dRet, dRetN, dDrop, dNext, dBreak, dCont, dNever, dIfE, dAnd, dOr, dNot, dTru, dAndV, dOrV, dNotV, dTup, dLst, nF, nC, dFld, dSetF, dCall, dMeth, dMake, dPar, dPar3, dgTup, dgCons, dgNil, dAug, dAugS2, dAugF, dBM, dBM0, dChain, dYes, dSl, dPart, dNoPart, wSl, wLt, wLe, wGt, wGe, wI, wI0, wAdd, wSub, wMod, wDiv, wPow, wMul, wEq, wEqB, wNe, wIsN, wIsB, wLen, wInt, wMax2, wMin2, wI2, wIxA, wSet, wGetC, wIp, wTupleOf, wStrI, wIsi, wIn, wInT, wAppend, wPop, wInsert, wLM, wGet, dkey, startD, tru, dty, lq, dRevL, putD, CDiv, CMul, CPow, setc_same, setc_setc, e]
  exact hq d hd cs1 s1 o1
theorem h__law_alphabet (cl : Str → Addr) : DOk (P__law_alphabet cl) (w__law_alphabet cl) 5 := by
  rintro ds cs Φ Ψ ⟨a, most, rfl, sr, h0, h1, hq⟩
  obtain ⟨ca, ea⟩ := sr.some
  unfold w__law_alphabet
  refine cut (fun ρ' cs' => ∃ p, ρ' = [some (.cell a), some (.int most), some (.cell p), none, none] ∧ cs p = none ∧ cs' = setc cs p (.lst [])) (fun B hB => ?_) ?_
  · simp [-List.lookup_eq_none_iff, dSeq, dIf, dB, dOp, dVar, dC, dUn, dAsg, dCB, dCons, dNil, dgName, dgSub, dRet, dRetN, dDrop, dNext, dBreak, dCont, dNever, dIfE, dAnd, dOr, dNot, dTru, dAndV, dOrV, dNotV, dTup, dLst, nF, nC, dFld, dSetF, dCall, dMeth, dMake, dPar, dPar3, dgTup, dgCons, dgNil, dAug, dAugS2, dAugF, dBM, dBM0, dChain, dYes, dSl, dPart, dNoPart, wSl, wLt, wLe, wGt, wGe, wI, wI0, wAdd, wSub, wMod, wDiv, wPow, wMul, wEq, wEqB, wNe, wIsN, wIsB, wLen, wInt, wMax2, wMin2, wI2, wIxA, wSet, wGetC, wIp, wTupleOf, wStrI, wIsi, wIn, wInT, wAppend, wPop, wInsert, wLM, wGet, dkey, startD, tru, dty, lq, dRevL, putD, CDiv, CMul, CPow, setc_same, setc_setc]
    exact fun p hp => hB _ _ ⟨p, rfl, hp, rfl⟩
  rintro _ _ ⟨p, rfl, hp, rfl⟩
  have nap : a ≠ p := ne_of_cs ea hp
  refine cut (fun ρ' cs' => ∃ ls : List Int, ∃ o3 o4, ρ' = [some (.cell a), some (.int most), some (.cell p), o3, o4] ∧ Src cs' a ∧ cs' p = some (.lst (ls.map D.int)) ∧ (∀ b, b ≠ a → b ≠ p → cs' b = cs b) ∧ ls.Nodup ∧ (∀ z ∈ ls, 0 ≤ z ∧ z < 256) ∧ 1 ≤ ls.length ∧ ls.length ≤ most.toNat) (fun B hB => ?_) ?_
  · rw [dFor_eq]
    simp only [dSeq, dIf, dB, dOp, dVar, dC, dUn, dAsg, dCB, dCons, dNil, dgName, dgSub, dRet, dRetN, dDrop, dNext, dBreak, dCont, dNever, dIfE, dAnd, dOr, dNot, dTru, dAndV, dOrV, dNotV, dTup, dLst, nF, nC, dFld, dSetF, dCall, dMeth, dMake, dPar, dPar3, dgTup, dgCons, dgNil, dAug, dAugS2, dAugF, dBM, dBM0, dChain, dYes, dSl, dPart, dNoPart, wSl, wLt, wLe, wGt, wGe, wI, wI0, wAdd, wSub, wMod, wDiv, wPow, wMul, wEq, wEqB, wNe, wIsN, wIsB, wLen, wInt, wMax2, wMin2, wI2, wIxA, wSet, wGetC, wIp, wTupleOf, wStrI, wIsi, wIn, wInT, wAppend, wPop, wInsert, wLM, wGet, dkey, startD, tru, dty, lq, dRevL, putD, CDiv, CMul, CPow, setc_same, setc_setc, diRng1, List.getElem?_cons_zero, List.getElem?_cons_succ]
    refine ⟨a, most, rfl, ?_, by omega, by omega, fun cs1 g s1 o1 g0 g1 => ?_⟩
    · obtain ⟨x, y, a1, a2, a3, a4⟩ := sr
      exact ⟨x, y, a1, a2, a3, by rw [setc_ne nap]; exact a4⟩
    have ep : cs1 p = some (.lst []) := by rw [o1 p nap.symm, setc_same]
    refine ⟨by omega, by omega, ?_⟩
    refine for_gen (fun i ρ' cs' => ∃ ls : List Int, ∃ o3 o4, ρ' = [some (.cell a), some (.int most), some (.cell p), o3, o4] ∧ Src cs' a ∧ cs' p = some (.lst (ls.map D.int)) ∧ (∀ b, b ≠ a → b ≠ p → cs' b = cs b) ∧ ls.Nodup ∧ (∀ z ∈ ls, 0 ≤ z ∧ z < 256) ∧ (0 < i → 1 ≤ ls.length) ∧ ls.length ≤ i)
      ⟨[], none, none, rfl, s1, ep, fun b hb hbp => by rw [o1 b hb, setc_ne hbp], .nil, by simp, by omega, by simp⟩ (fun _ _ _ _ => trivial) ?_ ?_
    · rintro i _ cs2 x ⟨ls, o3, o4, rfl, s2, e2, ot, nd, rg, ln, lm_⟩ hx B hB
      obtain ⟨hi, rfl⟩ := rng_get hx
      simp only [dgName, List.set_cons_succ, List.set_cons_zero]
      refine cut (fun ρ' cs' => ∃ z : Int, ρ' = [some (.cell a), some (.int most), some (.cell p), some (.int (0 + (i : Int))), some (.int z)] ∧ Src cs' a ∧ cs' p = some (.lst (ls.map D.int)) ∧ (∀ b, b ≠ a → b ≠ p → cs' b = cs b) ∧ 0 ≤ z ∧ z < 256) (fun B2 h2 => ?_) ?_
      · simp [-List.lookup_eq_none_iff, dSeq, dIf, dB, dOp, dVar, dC, dUn, dAsg, dCB, dCons, dNil, dgName, dgSub, dRet, dRetN, dDrop, dNext, dBreak, dCont, dNever, dIfE, dAnd, dOr, dNot, dTru, dAndV, dOrV, dNotV, dTup, dLst, nF, nC, dFld, dSetF, dCall, dMeth, dMake, dPar, dPar3, dgTup, dgCons, dgNil, dAug, dAugS2, dAugF, dBM, dBM0, dChain, dYes, dSl, dPart, dNoPart, wSl, wLt, wLe, wGt, wGe, wI, wI0, wAdd, wSub, wMod, wDiv, wPow, wMul, wEq, wEqB, wNe, wIsN, wIsB, wLen, wInt, wMax2, wMin2, wI2, wIxA, wSet, wGetC, wIp, wTupleOf, wStrI, wIsi, wIn, wInT, wAppend, wPop, wInsert, wLM, wGet, dkey, startD, tru, dty, lq, dRevL, putD, CDiv, CMul, CPow, setc_same, setc_setc]
        refine ⟨a, 256, rfl, s2, by omega, by omega, fun cs3 g3 s3 o3 g30 g31 => ?_⟩
        simp [-List.lookup_eq_none_iff, dSeq, dIf, dB, dOp, dVar, dC, dUn, dAsg, dCB, dCons, dNil, dgName, dgSub, dRet, dRetN, dDrop, dNext, dBreak, dCont, dNever, dIfE, dAnd, dOr, dNot, dTru, dAndV, dOrV, dNotV, dTup, dLst, nF, nC, dFld, dSetF, dCall, dMeth, dMake, dPar, dPar3, dgTup, dgCons, dgNil, dAug, dAugS2, dAugF, dBM, dBM0, dChain, dYes, dSl, dPart, dNoPart, wSl, wLt, wLe, wGt, wGe, wI, wI0, wAdd, wSub, wMod, wDiv, wPow, wMul, wEq, wEqB, wNe, wIsN, wIsB, wLen, wInt, wMax2, wMin2, wI2, wIxA, wSet, wGetC, wIp, wTupleOf, wStrI, wIsi, wIn, wInT, wAppend, wPop, wInsert, wLM, wGet, dkey, startD, tru, dty, lq, dRevL, putD, CDiv, CMul, CPow, setc_same, setc_setc]
        refine ⟨a, 8, rfl, s3, by omega, by omega, fun cs4 g4 s4 o4 g40 g41 => ?_⟩
        simp [-List.lookup_eq_none_iff, dSeq, dIf, dB, dOp, dVar, dC, dUn, dAsg, dCB, dCons, dNil, dgName, dgSub, dRet, dRetN, dDrop, dNext, dBreak, dCont, dNever, dIfE, dAnd, dOr, dNot, dTru, dAndV, dOrV, dNotV, dTup, dLst, nF, nC, dFld, dSetF, dCall, dMeth, dMake, dPar, dPar3, dgTup, dgCons, dgNil, dAug, dAugS2, dAugF, dBM, dBM0, dChain, dYes, dSl, dPart, dNoPart, wSl, wLt, wLe, wGt, wGe, wI, wI0, wAdd, wSub, wMod, wDiv, wPow, wMul, wEq, wEqB, wNe, wIsN, wIsB, wLen, wInt, wMax2, wMin2, wI2, wIxA, wSet, wGetC, wIp, wTupleOf, wStrI, wIsi, wIn, wInT, wAppend, wPop, wInsert, wLM, wGet, dkey, startD, tru, dty, lq, dRevL, putD, CDiv, CMul, CPow, setc_same, setc_setc]
        refine ⟨a, [.int 0, .int 255, .int g3, .int g4], rfl, s4, by simp, by simp, fun d hd cs5 s5 o5 => ?_⟩
        have o25 : Only a cs2 cs5 := (o3.trans o4).trans o5
        have : ∃ z : Int, d = .int z ∧ 0 ≤ z ∧ z < 256 := by
          simp only [List.mem_cons, List.not_mem_nil, or_false] at hd
          rcases hd with rfl | rfl | rfl | rfl
          · exact ⟨0, rfl, by omega, by omega⟩
          · exact ⟨255, rfl, by omega, by omega⟩
          · exact ⟨g3, rfl, g30, g31⟩
          · exact ⟨g4, rfl, g40, by omega⟩
        obtain ⟨z, rfl, z0, z1⟩ := this
        exact h2 _ _ ⟨z, by simp, s5, by rw [o25 p nap.symm]; exact e2, fun b hb hbp => by rw [o25 b hb]; exact ot b hb hbp, z0, z1⟩
      rintro _ cs3 ⟨z, rfl, s3, e3, ot3, z0, z1⟩
      simp [-List.lookup_eq_none_iff, dSeq, dIf, dB, dOp, dVar, dC, dUn, dAsg, dCB, dCons, dNil, dgName, dgSub, dRet, dRetN, dDrop, dNext, dBreak, dCont, dNever, dIfE, dAnd, dOr, dNot, dTru, dAndV, dOrV, dNotV, dTup, dLst, nF, nC, dFld, dSetF, dCall, dMeth, dMake, dPar, dPar3, dgTup, dgCons, dgNil, dAug, dAugS2, dAugF, dBM, dBM0, dChain, dYes, dSl, dPart, dNoPart, wSl, wLt, wLe, wGt, wGe, wI, wI0, wAdd, wSub, wMod, wDiv, wPow, wMul, wEq, wEqB, wNe, wIsN, wIsB, wLen, wInt, wMax2, wMin2, wI2, wIxA, wSet, wGetC, wIp, wTupleOf, wStrI, wIsi, wIn, wInT, wAppend, wPop, wInsert, wLM, wGet, dkey, startD, tru, dty, lq, dRevL, putD, CDiv, CMul, CPow, setc_same, setc_setc, e3, flatD, deq]
      by_cases hz : z ∈ ls
      · rw [if_neg (by simpa using hz)]
        exact hB _ _ ⟨ls, _, _, rfl, s3, e3, ot3, nd, rg, fun _ => List.length_pos_of_mem hz, by omega⟩
      · have hz' : ∀ x, x ∈ ls → ¬ x = z := fun x hx (e : x = z) => hz (e ▸ hx)
        rw [if_pos hz']
        refine ⟨by omega, hB _ _ ⟨ls ++ [z], _, _, rfl, ?_, by rw [setc_same]; simp, fun b hb hbp => by rw [setc_ne hbp]; exact ot3 b hb hbp, ?_, ?_, fun _ => by simp, by simp; omega⟩⟩
        · obtain ⟨x, y, a1, a2, a3, a4⟩ := s3
          exact ⟨x, y, a1, a2, a3, by rw [setc_ne nap]; exact a4⟩
        · exact List.nodup_append.mpr ⟨nd, by simp, fun u hu v hv e => hz (by
            have : v = z := by simpa using hv
            rw [← this, ← e]; exact hu)⟩
        · intro w hw
          rcases List.mem_append.mp hw with hw | hw
          · exact rg w hw
          · have : w = z := by simpa using hw
            omega
    · rintro _ cs2 ⟨ls, o3, o4, rfl, s2, e2, ot, nd, rg, ln, lm_⟩
      rw [rng_length] at ln lm_
      exact hB _ _ ⟨ls, o3, o4, rfl, s2, e2, ot, nd, rg, ln (by omega), by omega⟩
  · rintro _ cs2 ⟨ls, o3, o4, rfl, s2, e2, ot, nd, rg, ln, lm_⟩
    simp [-List.lookup_eq_none_iff, dSeq, dIf, dB, dOp, dVar, dC, dUn, dAsg, dCB, dCons, dNil, dgName, dgSub, dRet, dRetN, dDrop, dNext, dBreak, dCont, dNever, dIfE, dAnd, dOr, dNot, dTru, dAndV, dOrV, dNotV, dTup, dLst, nF, nC, dFld, dSetF, dCall, dMeth, dMake, dPar, dPar3, dgTup, dgCons, dgNil, dAug, dAugS2, dAugF, dBM, dBM0, dChain, dYes, dSl, dPart, dNoPart, wSl, wLt, wLe, wGt, wGe, wI, wI0, wAdd, wSub, wMod, wDiv, wPow, wMul, wEq, wEqB, wNe, wIsN, wIsB, wLen, wInt, wMax2, wMin2, wI2, wIxA, wSet, wGetC, wIp, wTupleOf, wStrI, wIsi, wIn, wInT, wAppend, wPop, wInsert, wLM, wGet, dkey, startD, tru, dty, lq, dRevL, putD, CDiv, CMul, CPow, setc_same, setc_setc, dGv]
    refine ⟨.lst (ls.map D.int), delc cs2 p, GhV.frz e2, hq ls nd rg ln lm_ _ ?_ ?_⟩
    · obtain ⟨x, y, a1, a2, a3, a4⟩ := s2
      exact ⟨x, y, a1, a2, a3, by rw [delc_ne nap]; exact a4⟩
    · intro b hb
      by_cases hbp : b = p
      · rw [hbp, delc_same, hp]
      · rw [delc_ne hbp]; exact ot b hb hbp
theorem filter_one {n j : Nat} {p : Nat → Bool} (hj : j < n) (hp : p j = true) (u : ∀ i, i < n → p i = true → i = j) : (List.range n).filter p = [j] := by
  have pm : ((List.range n).filter p).Perm [j] := by
    refine (List.perm_ext_iff_of_nodup ((List.nodup_range (n := n)).filter _) (by simp)).mpr fun x => ?_
    rw [List.mem_filter, List.mem_range, List.mem_singleton]
    constructor
    · rintro ⟨a, b⟩; exact u x a b
    · rintro rfl; exact ⟨hj, hp⟩
  exact List.perm_singleton.mp pm
theorem row_at {t : T} {i : Nat} (hi : i < t.n) : atI ((List.range t.n).map (lJ t)) (i : Int) = some (lJ t i) := atI_nat (by rw [List.getElem?_map, List.getElem?_range hi]; rfl)
end LS
namespace LS
open PySem PySem.Spec PyProof.Rows L2 DL
theorem Src.keep {cs cs' : Cs} {a : Addr} (h : Src cs a) (e : cs' a = cs a) : Src cs' a := by
  obtain ⟨x, y, a1, a2, a3, a4⟩ := h; exact ⟨x, y, a1, a2, a3, e.trans a4⟩
theorem int_at {ls : List Int} {g : Int} (h0 : 0 ≤ g) (h1 : g < ls.length) : ∃ z, z ∈ ls ∧ atI (ls.map D.int) g = some (.int z) := by
  obtain ⟨z, hz, e⟩ := atI_mem (xs := ls) h0 h1
  exact ⟨z, hz, by rw [atI_map, e]; rfl⟩
theorem h__law_letters (cl : Str → Addr) : DOk (P__law_letters cl) (w__law_letters cl) 7 := by
  rintro ds cs Φ Ψ ⟨a, most, rfl, sr, h0, h1, hq⟩
  obtain ⟨ca, ea⟩ := sr.some
  unfold w__law_letters
  refine cut (fun ρ' cs' => ∃ (ls : List Int) (r : Addr), ρ' = [some (.cell a), some (.int most), some (.lst (ls.map D.int)), some (.cell r), none, none, none] ∧ Src cs' a ∧ r ≠ a ∧ cs r = none ∧ cs' r = some (.lst []) ∧ (∀ b, b ≠ a → b ≠ r → cs' b = cs b) ∧ (∀ z ∈ ls, 0 ≤ z ∧ z < 256) ∧ 1 ≤ ls.length ∧ ls.length ≤ 8) (fun B hB => ?_) ?_
  · simp [-List.lookup_eq_none_iff, dSeq, dIf, dB, dOp, dVar, dC, dUn, dAsg, dCB, dCons, dNil, dgName, dgSub, dRet, dRetN, dDrop, dNext, dBreak, dCont, dNever, dIfE, dAnd, dOr, dNot, dTru, dAndV, dOrV, dNotV, dTup, dLst, nF, nC, dFld, dSetF, dCall, dMeth, dMake, dPar, dPar3, dgTup, dgCons, dgNil, dAug, dAugS2, dAugF, dBM, dBM0, dChain, dYes, dSl, dPart, dNoPart, wSl, wLt, wLe, wGt, wGe, wI, wI0, wAdd, wSub, wMod, wDiv, wPow, wMul, wEq, wEqB, wNe, wIsN, wIsB, wLen, wInt, wMax2, wMin2, wI2, wIxA, wSet, wGetC, wIp, wTupleOf, wStrI, wIsi, wIn, wInT, wAppend, wPop, wInsert, wLM, wGet, dkey, startD, tru, dty, lq, dRevL, putD, CDiv, CMul, CPow, setc_same, setc_setc]
    refine ⟨a, [.int 1, .int 2, .int 3, .int 5, .int 8], rfl, sr, by simp, by simp, fun d hd cs1 s1 o1 => ?_⟩
    have : ∃ m : Int, d = .int m ∧ 1 ≤ m ∧ m ≤ 8 := by
      simp only [List.mem_cons, List.not_mem_nil, or_false] at hd
      rcases hd with rfl | rfl | rfl | rfl | rfl
      · exact ⟨1, rfl, by omega, by omega⟩
      · exact ⟨2, rfl, by omega, by omega⟩
      · exact ⟨3, rfl, by omega, by omega⟩
      · exact ⟨5, rfl, by omega, by omega⟩
      · exact ⟨8, rfl, by omega, by omega⟩
    obtain ⟨m, rfl, m1, m8⟩ := this
    refine ⟨a, m, rfl, s1, m1, by omega, fun ls nd rg l1 lm cs2 s2 o2 => ?_⟩
    simp [-List.lookup_eq_none_iff, dSeq, dIf, dB, dOp, dVar, dC, dUn, dAsg, dCB, dCons, dNil, dgName, dgSub, dRet, dRetN, dDrop, dNext, dBreak, dCont, dNever, dIfE, dAnd, dOr, dNot, dTru, dAndV, dOrV, dNotV, dTup, dLst, nF, nC, dFld, dSetF, dCall, dMeth, dMake, dPar, dPar3, dgTup, dgCons, dgNil, dAug, dAugS2, dAugF, dBM, dBM0, dChain, dYes, dSl, dPart, dNoPart, wSl, wLt, wLe, wGt, wGe, wI, wI0, wAdd, wSub, wMod, wDiv, wPow, wMul, wEq, wEqB, wNe, wIsN, wIsB, wLen, wInt, wMax2, wMin2, wI2, wIxA, wSet, wGetC, wIp, wTupleOf, wStrI, wIsi, wIn, wInT, wAppend, wPop, wInsert, wLM, wGet, dkey, startD, tru, dty, lq, dRevL, putD, CDiv, CMul, CPow, setc_same, setc_setc]
    intro r hr
    have o12 := o1.trans o2
    have nra : r ≠ a := fun z => by obtain ⟨c, e⟩ := s2.some; rw [z, e] at hr; cases hr
    exact hB _ _ ⟨ls, r, rfl, s2.keep (setc_ne nra.symm), nra, by rw [← o12 r nra]; exact hr, setc_same, fun b hb hbr => by rw [setc_ne hbr]; exact o12 b hb, rg, l1, by omega⟩
  rintro _ cs1 ⟨ls, r, rfl, s1, nra, fr, er, ot, rg, l1, l8⟩
  refine cut (fun ρ' cs' => ∃ (wy : Int) (mn : Int), ρ' = [some (.cell a), some (.int most), some (.lst (ls.map D.int)), some (.cell r), some (.int wy), some (.int mn), none] ∧ Src cs' a ∧ cs' r = some (.lst []) ∧ (∀ b, b ≠ a → b ≠ r → cs' b = cs b) ∧ 0 ≤ mn ∧ mn ≤ most) (fun B hB => ?_) ?_
  · simp [-List.lookup_eq_none_iff, dSeq, dIf, dB, dOp, dVar, dC, dUn, dAsg, dCB, dCons, dNil, dgName, dgSub, dRet, dRetN, dDrop, dNext, dBreak, dCont, dNever, dIfE, dAnd, dOr, dNot, dTru, dAndV, dOrV, dNotV, dTup, dLst, nF, nC, dFld, dSetF, dCall, dMeth, dMake, dPar, dPar3, dgTup, dgCons, dgNil, dAug, dAugS2, dAugF, dBM, dBM0, dChain, dYes, dSl, dPart, dNoPart, wSl, wLt, wLe, wGt, wGe, wI, wI0, wAdd, wSub, wMod, wDiv, wPow, wMul, wEq, wEqB, wNe, wIsN, wIsB, wLen, wInt, wMax2, wMin2, wI2, wIxA, wSet, wGetC, wIp, wTupleOf, wStrI, wIsi, wIn, wInT, wAppend, wPop, wInsert, wLM, wGet, dkey, startD, tru, dty, lq, dRevL, putD, CDiv, CMul, CPow, setc_same, setc_setc]
    refine ⟨a, 4, rfl, s1, by omega, by omega, fun cs2 g2 s2 o2 g20 g21 => ?_⟩
    simp [-List.lookup_eq_none_iff, dSeq, dIf, dB, dOp, dVar, dC, dUn, dAsg, dCB, dCons, dNil, dgName, dgSub, dRet, dRetN, dDrop, dNext, dBreak, dCont, dNever, dIfE, dAnd, dOr, dNot, dTru, dAndV, dOrV, dNotV, dTup, dLst, nF, nC, dFld, dSetF, dCall, dMeth, dMake, dPar, dPar3, dgTup, dgCons, dgNil, dAug, dAugS2, dAugF, dBM, dBM0, dChain, dYes, dSl, dPart, dNoPart, wSl, wLt, wLe, wGt, wGe, wI, wI0, wAdd, wSub, wMod, wDiv, wPow, wMul, wEq, wEqB, wNe, wIsN, wIsB, wLen, wInt, wMax2, wMin2, wI2, wIxA, wSet, wGetC, wIp, wTupleOf, wStrI, wIsi, wIn, wInT, wAppend, wPop, wInsert, wLM, wGet, dkey, startD, tru, dty, lq, dRevL, putD, CDiv, CMul, CPow, setc_same, setc_setc]
    refine ⟨a, most + 1, rfl, s2, by omega, by omega, fun cs3 g3 s3 o3 g30 g31 => ?_⟩
    simp [-List.lookup_eq_none_iff, dSeq, dIf, dB, dOp, dVar, dC, dUn, dAsg, dCB, dCons, dNil, dgName, dgSub, dRet, dRetN, dDrop, dNext, dBreak, dCont, dNever, dIfE, dAnd, dOr, dNot, dTru, dAndV, dOrV, dNotV, dTup, dLst, nF, nC, dFld, dSetF, dCall, dMeth, dMake, dPar, dPar3, dgTup, dgCons, dgNil, dAug, dAugS2, dAugF, dBM, dBM0, dChain, dYes, dSl, dPart, dNoPart, wSl, wLt, wLe, wGt, wGe, wI, wI0, wAdd, wSub, wMod, wDiv, wPow, wMul, wEq, wEqB, wNe, wIsN, wIsB, wLen, wInt, wMax2, wMin2, wI2, wIxA, wSet, wGetC, wIp, wTupleOf, wStrI, wIsi, wIn, wInT, wAppend, wPop, wInsert, wLM, wGet, dkey, startD, tru, dty, lq, dRevL, putD, CDiv, CMul, CPow, setc_same, setc_setc]
    have o13 := o2.trans o3
    exact hB _ _ ⟨g2, g3, rfl, s3, by rw [o13 r nra]; exact er, fun b hb hbr => by rw [o13 b hb]; exact ot b hb hbr, g30, by omega⟩
  rintro _ cs2 ⟨wy, mn, rfl, s2, e2, ot2, m0, m1⟩
  refine cut (fun ρ' cs' => ∃ (rs : List Int) (o6 : Option D), ρ' = [some (.cell a), some (.int most), some (.lst (ls.map D.int)), some (.cell r), some (.int wy), some (.int mn), o6] ∧ Src cs' a ∧ cs' r = some (.lst (rs.map D.int)) ∧ (∀ b, b ≠ a → b ≠ r → cs' b = cs b) ∧ (∀ z ∈ rs, 0 ≤ z ∧ z < 256) ∧ rs.length ≤ mn.toNat) (fun B hB => ?_) ?_
  · rw [dFor_eq]
    show -(2 ^ 62) ≤ mn ∧ mn < 2 ^ 62 ∧ ForOk _ _ _ _ (rng 0 mn.toNat) _ _
    refine ⟨by omega, by omega, ?_⟩
    refine for_gen (fun i ρ' cs' => ∃ (rs : List Int) (o6 : Option D), ρ' = [some (.cell a), some (.int most), some (.lst (ls.map D.int)), some (.cell r), some (.int wy), some (.int mn), o6] ∧ Src cs' a ∧ cs' r = some (.lst (rs.map D.int)) ∧ (∀ b, b ≠ a → b ≠ r → cs' b = cs b) ∧ (∀ z ∈ rs, 0 ≤ z ∧ z < 256) ∧ rs.length ≤ i)
      ⟨[], none, rfl, s2, e2, ot2, by simp, by simp⟩ (fun _ _ _ _ => trivial) ?_ ?_
    · rintro i _ cs3 x ⟨rs, o6, rfl, s3, e3, ot3, rg3, ln3⟩ hx B hB
      obtain ⟨hi, rfl⟩ := rng_get hx
      have fin : ∀ z cs4, z ∈ ls → Src cs4 a → cs4 r = some (.lst (rs.map D.int)) → (∀ b, b ≠ a → b ≠ r → cs4 b = cs b) → B [some (.cell a), some (.int most), some (.lst (ls.map D.int)), some (.cell r), some (.int wy), some (.int mn), some (.int (0 + (i : Int)))] (setc cs4 r (.lst (rs.map D.int ++ [.int z]))) := fun z cs4 hz s4 e4 ot4 =>
        hB _ _ ⟨rs ++ [z], _, rfl, s4.keep (setc_ne nra.symm), by rw [setc_same]; simp, fun b hb hbr => by rw [setc_ne hbr]; exact ot4 b hb hbr, fun w hw => by
          rcases List.mem_append.mp hw with hw | hw
          · exact rg3 w hw
          · have : w = z := by simpa using hw
            rw [this]; exact rg z hz, by simp; omega⟩
      have z0 : (0 : Int) + (i : Int) = i := by omega
      rw [z0] at fin ⊢
      by_cases w0 : wy = 0
      · simp [-List.lookup_eq_none_iff, dSeq, dIf, dB, dOp, dVar, dC, dUn, dAsg, dCB, dCons, dNil, dgName, dgSub, dRet, dRetN, dDrop, dNext, dBreak, dCont, dNever, dIfE, dAnd, dOr, dNot, dTru, dAndV, dOrV, dNotV, dTup, dLst, nF, nC, dFld, dSetF, dCall, dMeth, dMake, dPar, dPar3, dgTup, dgCons, dgNil, dAug, dAugS2, dAugF, dBM, dBM0, dChain, dYes, dSl, dPart, dNoPart, wSl, wLt, wLe, wGt, wGe, wI, wI0, wAdd, wSub, wMod, wDiv, wPow, wMul, wEq, wEqB, wNe, wIsN, wIsB, wLen, wInt, wMax2, wMin2, wI2, wIxA, wSet, wGetC, wIp, wTupleOf, wStrI, wIsi, wIn, wInT, wAppend, wPop, wInsert, wLM, wGet, dkey, startD, tru, dty, lq, dRevL, putD, CDiv, CMul, CPow, setc_same, setc_setc, w0, e3]
        refine ⟨a, ls.map D.int, rfl, s3, by simp; omega, by simp; omega, fun d hd cs4 s4 o4 => ?_⟩
        obtain ⟨z, hz, rfl⟩ := List.mem_map.mp hd
        have e4 : cs4 r = some (.lst (rs.map D.int)) := by rw [o4 r nra]; exact e3
        simp [-List.lookup_eq_none_iff, dSeq, dIf, dB, dOp, dVar, dC, dUn, dAsg, dCB, dCons, dNil, dgName, dgSub, dRet, dRetN, dDrop, dNext, dBreak, dCont, dNever, dIfE, dAnd, dOr, dNot, dTru, dAndV, dOrV, dNotV, dTup, dLst, nF, nC, dFld, dSetF, dCall, dMeth, dMake, dPar, dPar3, dgTup, dgCons, dgNil, dAug, dAugS2, dAugF, dBM, dBM0, dChain, dYes, dSl, dPart, dNoPart, wSl, wLt, wLe, wGt, wGe, wI, wI0, wAdd, wSub, wMod, wDiv, wPow, wMul, wEq, wEqB, wNe, wIsN, wIsB, wLen, wInt, wMax2, wMin2, wI2, wIxA, wSet, wGetC, wIp, wTupleOf, wStrI, wIsi, wIn, wInT, wAppend, wPop, wInsert, wLM, wGet, dkey, startD, tru, dty, lq, dRevL, putD, CDiv, CMul, CPow, setc_same, setc_setc, e4]
        refine ⟨by omega, ?_⟩
        rw [← w0]
        exact fin z cs4 hz s4 e4 fun b hb hbr => by rw [o4 b hb]; exact ot3 b hb hbr
      · by_cases w1 : wy = 1
        · simp [-List.lookup_eq_none_iff, dSeq, dIf, dB, dOp, dVar, dC, dUn, dAsg, dCB, dCons, dNil, dgName, dgSub, dRet, dRetN, dDrop, dNext, dBreak, dCont, dNever, dIfE, dAnd, dOr, dNot, dTru, dAndV, dOrV, dNotV, dTup, dLst, nF, nC, dFld, dSetF, dCall, dMeth, dMake, dPar, dPar3, dgTup, dgCons, dgNil, dAug, dAugS2, dAugF, dBM, dBM0, dChain, dYes, dSl, dPart, dNoPart, wSl, wLt, wLe, wGt, wGe, wI, wI0, wAdd, wSub, wMod, wDiv, wPow, wMul, wEq, wEqB, wNe, wIsN, wIsB, wLen, wInt, wMax2, wMin2, wI2, wIxA, wSet, wGetC, wIp, wTupleOf, wStrI, wIsi, wIn, wInT, wAppend, wPop, wInsert, wLM, wGet, dkey, startD, tru, dty, lq, dRevL, putD, CDiv, CMul, CPow, setc_same, setc_setc, w1, e3]
          refine ⟨a, ls.length, rfl, s3, by omega, by omega, fun cs4 g4 s4 o4 g40 g41 => ?_⟩
          simp [-List.lookup_eq_none_iff, dSeq, dIf, dB, dOp, dVar, dC, dUn, dAsg, dCB, dCons, dNil, dgName, dgSub, dRet, dRetN, dDrop, dNext, dBreak, dCont, dNever, dIfE, dAnd, dOr, dNot, dTru, dAndV, dOrV, dNotV, dTup, dLst, nF, nC, dFld, dSetF, dCall, dMeth, dMake, dPar, dPar3, dgTup, dgCons, dgNil, dAug, dAugS2, dAugF, dBM, dBM0, dChain, dYes, dSl, dPart, dNoPart, wSl, wLt, wLe, wGt, wGe, wI, wI0, wAdd, wSub, wMod, wDiv, wPow, wMul, wEq, wEqB, wNe, wIsN, wIsB, wLen, wInt, wMax2, wMin2, wI2, wIxA, wSet, wGetC, wIp, wTupleOf, wStrI, wIsi, wIn, wInT, wAppend, wPop, wInsert, wLM, wGet, dkey, startD, tru, dty, lq, dRevL, putD, CDiv, CMul, CPow, setc_same, setc_setc]
          refine ⟨a, ls.length, rfl, s4, by omega, by omega, fun cs5 g5 s5 o5 g50 g51 => ?_⟩
          have o45 := o4.trans o5
          obtain ⟨z, hz, ez⟩ := int_at (ls := ls) (g := if g5 < g4 then g5 else g4) (by split <;> omega) (by split <;> omega)
          have e5 : cs5 r = some (.lst (rs.map D.int)) := by rw [o45 r nra]; exact e3
          simp [-List.lookup_eq_none_iff, dSeq, dIf, dB, dOp, dVar, dC, dUn, dAsg, dCB, dCons, dNil, dgName, dgSub, dRet, dRetN, dDrop, dNext, dBreak, dCont, dNever, dIfE, dAnd, dOr, dNot, dTru, dAndV, dOrV, dNotV, dTup, dLst, nF, nC, dFld, dSetF, dCall, dMeth, dMake, dPar, dPar3, dgTup, dgCons, dgNil, dAug, dAugS2, dAugF, dBM, dBM0, dChain, dYes, dSl, dPart, dNoPart, wSl, wLt, wLe, wGt, wGe, wI, wI0, wAdd, wSub, wMod, wDiv, wPow, wMul, wEq, wEqB, wNe, wIsN, wIsB, wLen, wInt, wMax2, wMin2, wI2, wIxA, wSet, wGetC, wIp, wTupleOf, wStrI, wIsi, wIn, wInT, wAppend, wPop, wInsert, wLM, wGet, dkey, startD, tru, dty, lq, dRevL, putD, CDiv, CMul, CPow, setc_same, setc_setc, ez, e5]
          refine ⟨by omega, ?_⟩
          rw [← w1]
          exact fin z cs5 hz s5 e5 fun b hb hbr => by rw [o45 b hb]; exact ot3 b hb hbr
        · by_cases w2 : wy = 2
          · have hlt : (i : Int) * ls.length / (if mn > 1 then mn else 1) < ls.length := by
              have hm : (i : Int) < mn := by omega
              rw [Int.ediv_lt_iff_lt_mul (by split <;> omega)]
              have : (if mn > 1 then mn else 1) = mn := by split <;> omega
              rw [this, Int.mul_comm (ls.length : Int)]
              exact Int.mul_lt_mul_of_pos_right hm (by omega)
            obtain ⟨z, hz, ez⟩ := int_at (ls := ls) (g := (i : Int) * ls.length / (if mn > 1 then mn else 1)) (Int.ediv_nonneg (Int.mul_nonneg (by omega) (by omega)) (by split <;> omega)) hlt
            simp [-List.lookup_eq_none_iff, dSeq, dIf, dB, dOp, dVar, dC, dUn, dAsg, dCB, dCons, dNil, dgName, dgSub, dRet, dRetN, dDrop, dNext, dBreak, dCont, dNever, dIfE, dAnd, dOr, dNot, dTru, dAndV, dOrV, dNotV, dTup, dLst, nF, nC, dFld, dSetF, dCall, dMeth, dMake, dPar, dPar3, dgTup, dgCons, dgNil, dAug, dAugS2, dAugF, dBM, dBM0, dChain, dYes, dSl, dPart, dNoPart, wSl, wLt, wLe, wGt, wGe, wI, wI0, wAdd, wSub, wMod, wDiv, wPow, wMul, wEq, wEqB, wNe, wIsN, wIsB, wLen, wInt, wMax2, wMin2, wI2, wIxA, wSet, wGetC, wIp, wTupleOf, wStrI, wIsi, wIn, wInT, wAppend, wPop, wInsert, wLM, wGet, dkey, startD, tru, dty, lq, dRevL, putD, CDiv, CMul, CPow, setc_same, setc_setc, w2, e3]
            refine ⟨.inr (by omega), ⟨by split <;> omega, by split <;> omega⟩, .int z, ez, by omega, ?_⟩
            rw [← w2]
            exact fin z cs3 hz s3 e3 ot3
          · obtain ⟨z, hz, ez⟩ := int_at (ls := ls) (g := (i : Int) % ls.length) (Int.emod_nonneg _ (by omega)) (Int.emod_lt_of_pos _ (by omega))
            simp [-List.lookup_eq_none_iff, dSeq, dIf, dB, dOp, dVar, dC, dUn, dAsg, dCB, dCons, dNil, dgName, dgSub, dRet, dRetN, dDrop, dNext, dBreak, dCont, dNever, dIfE, dAnd, dOr, dNot, dTru, dAndV, dOrV, dNotV, dTup, dLst, nF, nC, dFld, dSetF, dCall, dMeth, dMake, dPar, dPar3, dgTup, dgCons, dgNil, dAug, dAugS2, dAugF, dBM, dBM0, dChain, dYes, dSl, dPart, dNoPart, wSl, wLt, wLe, wGt, wGe, wI, wI0, wAdd, wSub, wMod, wDiv, wPow, wMul, wEq, wEqB, wNe, wIsN, wIsB, wLen, wInt, wMax2, wMin2, wI2, wIxA, wSet, wGetC, wIp, wTupleOf, wStrI, wIsi, wIn, wInT, wAppend, wPop, wInsert, wLM, wGet, dkey, startD, tru, dty, lq, dRevL, putD, CDiv, CMul, CPow, setc_same, setc_setc, w0, w1, w2, e3, ez]
            exact ⟨by omega, by omega, fin z cs3 hz s3 e3 ot3⟩
    · rintro _ cs3 ⟨rs, o6, rfl, s3, e3, ot3, rg3, ln3⟩
      rw [rng_length] at ln3
      exact hB _ _ ⟨rs, o6, rfl, s3, e3, ot3, rg3, ln3⟩
  · rintro _ cs3 ⟨rs, o6, rfl, s3, e3, ot3, rg3, ln3⟩
    simp [-List.lookup_eq_none_iff, dSeq, dIf, dB, dOp, dVar, dC, dUn, dAsg, dCB, dCons, dNil, dgName, dgSub, dRet, dRetN, dDrop, dNext, dBreak, dCont, dNever, dIfE, dAnd, dOr, dNot, dTru, dAndV, dOrV, dNotV, dTup, dLst, nF, nC, dFld, dSetF, dCall, dMeth, dMake, dPar, dPar3, dgTup, dgCons, dgNil, dAug, dAugS2, dAugF, dBM, dBM0, dChain, dYes, dSl, dPart, dNoPart, wSl, wLt, wLe, wGt, wGe, wI, wI0, wAdd, wSub, wMod, wDiv, wPow, wMul, wEq, wEqB, wNe, wIsN, wIsB, wLen, wInt, wMax2, wMin2, wI2, wIxA, wSet, wGetC, wIp, wTupleOf, wStrI, wIsi, wIn, wInT, wAppend, wPop, wInsert, wLM, wGet, dkey, startD, tru, dty, lq, dRevL, putD, CDiv, CMul, CPow, setc_same, setc_setc, e3]
    exact hq rs rg3 (by omega) cs3 s3 fun b c hb hc => by rw [ot3 b hb (ne_of_cs hc fr)]; exact hc
theorem nodup_leG {α : Type} [BEq α] [LawfulBEq α] : ∀ {l l2 : List α}, l.Nodup → (∀ x ∈ l, x ∈ l2) → l.length ≤ l2.length
  | [], _, _, _ => Nat.zero_le _
  | x :: l, l2, h, s => by
    obtain ⟨h1, h2⟩ := List.nodup_cons.mp h
    have hx := s x (List.mem_cons_self ..)
    have := nodup_leG (l2 := l2.erase x) h2 fun y hy => (List.mem_erase_of_ne (fun e => h1 (by rw [← e]; exact hy))).mpr (s y (List.mem_cons_of_mem _ hy))
    rw [List.length_erase_of_mem hx] at this
    have : 0 < l2.length := List.length_pos_of_mem hx
    simp only [List.length_cons]; omega
end LS
namespace LS
open PySem PySem.Spec PyProof.Rows L2 DL
/-- cells are let go -/
theorem Rl.sub {K : PySem.W.Frag} {H : Hp} {cs cs0 : Cs} {F : Hp} (r : Rl K H cs F) (s : ∀ b c, cs0 b = some c → cs b = some c) : Rl K H cs0 F ∧ Stp H cs H cs0 F := by
  have sm : Same (hid H cs F) (hid H cs0 F) := fun b u e => by
    obtain ⟨e1, e2, e3⟩ := hid_some e
    refine (hid_ne ?_ e3).trans e1
    cases q : cs0 b with
    | none => rfl
    | some c => rw [s b c q] at e2; cases e2
  exact ⟨⟨fun b x e => (r.c b x (s b x e)).mono sm fun _ q => q, r.f, fun b x e => r.d b x (s b x e)⟩, ⟨sm⟩⟩
theorem GhV.drop {cs : Cs} {p : Addr} {c : Ct} {v : Int} (h : cs p = none) : GhV (.int v) (setc cs p c) (.int v) cs := fun K H F u r t => by
  obtain ⟨r2, s2⟩ := r.del (a := p)
  rw [delc_setc h] at r2 s2
  exact ⟨r2, s2, t.mono s2.base⟩
theorem lJ_ints {t : T} {i : Nat} : ([.int (t.k i), .int (t.c i), .int (t.u i)] : List D) = [t.k i, t.c i, t.u i].map D.int := rfl
/-- a new list of new lists is frozen -/
theorem GhV.deep {cs cs' : Cs} {p : Addr} {qa : Nat → Addr} {t : T} (n : NR cs cs' p qa t) : GhV (.cell p) cs' (lR t) cs := fun K H F u r td => by
  have sub : ∀ b c, cs b = some c → cs' b = some c := fun b c e => by
    rw [n.others b (fun z => by rw [z, n.fp] at e; cases e) fun i hi z => by rw [z, n.fq i hi] at e; cases e]; exact e
  obtain ⟨r2, s2⟩ := Rl.sub r sub
  cases td
  obtain ⟨vs, h1, ta⟩ := r.c p _ n.hp
  refine ⟨r2, s2, .lst ((hid_ne n.fp (r.d p _ n.hp)).trans h1) ?_⟩
  -- each of its lists
  have each : ∀ (is : List Nat), (∀ i ∈ is, i < t.n) → ∀ ws, DtA K (hid H cs' F) ws (is.map fun i => D.cell (qa i)) → DtA K (hid H cs F) ws (is.map (lJ t)) := by
    intro is
    induction is with
    | nil => intro _ ws h; cases h; exact .nil
    | cons i is ih =>
      intro hi ws h
      cases h with
      | cons a b =>
        refine .cons ?_ (ih (fun j hj => hi j (List.mem_cons_of_mem _ hj)) _ b)
        have hi0 := hi i (List.mem_cons_self ..)
        cases a
        obtain ⟨us, h2, tb⟩ := r.c (qa i) _ (n.hq i hi0)
        exact .lst ((hid_ne (n.fq i hi0) (r.d (qa i) _ (n.hq i hi0))).trans h2) (tb.mono s2.base)
  exact each _ (fun i hi => List.mem_range.mp hi) vs ta
def upq (qa : Nat → Addr) (i : Nat) (p : Addr) : Nat → Addr := fun j => if j = i then p else qa j
theorem upq_same {qa : Nat → Addr} {i : Nat} {p : Addr} : upq qa i p i = p := if_pos rfl
theorem upq_ne {qa : Nat → Addr} {i j : Nat} {p : Addr} (h : j ≠ i) : upq qa i p j = qa j := if_neg h
theorem lc_nest {wg : DG} {we : DE} {vs : List Nat} {ρ : EnvD} {cs : Cs} {Φ : D → Cs → Prop} {items : List D} {t : T} (hl : items.length = t.n) (n1 : t.n ≤ 1000)
    (hs : ∀ i, i < t.n → ∀ x, items[i]? = some x → ∀ cs2 (B : D → Cs → Prop), Ext cs cs2 → (∀ p, cs2 p = none → B (.cell p) (setc cs2 p (.lst [.int (t.k i), .int (t.c i), .int (t.u i)]))) → wg x (wipeD ρ vs) cs2 (fun ρ2 cs3 => we ρ2 cs3 B noEx) noEx)
    (h : ∀ p qa cs', NR cs cs' p qa t → Φ (.cell p) cs') : LcOk nC wg dYes we vs ρ Φ items (fun _ => True) cs := by
  refine ⟨by omega, fun i acc cs2 => ∃ qa : Nat → Addr, acc = (List.range i).map (fun j => D.cell (qa j)) ∧ (∀ j, j < i → cs2 (qa j) = some (.lst [.int (t.k j), .int (t.c j), .int (t.u j)])) ∧ (∀ j, j < i → cs (qa j) = none) ∧ (∀ j l, j < i → l < i → qa j = qa l → j = l) ∧ ∀ b, (∀ j, j < i → b ≠ qa j) → cs2 b = cs b,
    ⟨fun _ => 0, rfl, fun j hj => by omega, fun j hj => by omega, fun j l hj => by omega, fun b _ => rfl⟩, ?_⟩
  rintro i acc cs2 ⟨qa, rfl, q1, q2, q3, q4⟩
  have ext : Ext cs cs2 := fun b c e => by rw [q4 b fun j hj z => by rw [z, q2 j hj] at e; cases e]; exact e
  refine ⟨trivial, fun x hx => ?_, fun e => ?_⟩
  · have hi : i < t.n := by rw [← hl]; exact (List.getElem?_eq_some_iff.mp hx).1
    refine hs i hi x hx cs2 _ ext fun p hp => ?_
    have fp : cs p = none := by
      cases e : cs p with
      | none => rfl
      | some c => rw [ext p c e] at hp; cases hp
    have np : ∀ j, j < i → qa j ≠ p := fun j hj z => by rw [← z, q1 j hj] at hp; cases hp
    refine ⟨upq qa i p, ?_, fun j hj => ?_, fun j hj => ?_, fun j l hj hl2 e => ?_, fun b hb => ?_⟩
    · rw [range_map_succ, upq_same]
      congr 1
      apply List.map_congr_left
      intro j hj
      have hj := List.mem_range.mp hj
      rw [upq_ne (by omega)]
    · by_cases e : j = i
      · rw [e, upq_same, setc_same]
      · rw [upq_ne e, setc_ne (np j (by omega))]; exact q1 j (by omega)
    · by_cases e : j = i
      · rw [e, upq_same]; exact fp
      · rw [upq_ne e]; exact q2 j (by omega)
    · by_cases ej : j = i
      · by_cases el : l = i
        · omega
        · rw [ej, upq_same, upq_ne el] at e
          exact absurd e.symm (np l (by omega))
      · by_cases el : l = i
        · rw [el, upq_same, upq_ne ej] at e
          exact absurd e (np j (by omega))
        · rw [upq_ne ej, upq_ne el] at e
          exact q3 j l (by omega) (by omega) e
    · have nb : b ≠ p := by have := hb i (by omega); rwa [upq_same] at this
      rw [setc_ne nb]
      exact q4 b fun j hj => by have := hb j (by omega); rwa [upq_ne (by omega)] at this
  · rw [hl] at e
    subst e
    intro p hp
    have fp : cs p = none := by
      cases e : cs p with
      | none => rfl
      | some c => rw [ext p c e] at hp; cases hp
    have np : ∀ j, j < t.n → qa j ≠ p := fun j hj z => by rw [← z, q1 j hj] at hp; cases hp
    exact h p qa _ ⟨setc_same, fun j hj => by rw [setc_ne (np j hj)]; exact q1 j hj, fp, q2, q3, np, fun b hb hbq => by rw [setc_ne hb]; exact q4 b hbq⟩
theorem cell_at {n i : Nat} {qa : Nat → Addr} (hi : i < n) : atI ((List.range n).map fun i => D.cell (qa i)) (i : Int) = some (.cell (qa i)) := atI_nat (by rw [List.getElem?_map, List.getElem?_range hi]; rfl)
theorem nest_set {v w : Nat} {j i : Int} {x : D} {ρ : EnvD} {cs : Cs} {Φ : EnvD → Cs → Prop} {Ψ : EK} {p q : Addr} {xs ys : List D} {k : Nat} (hv : ρ[v]? = some (some (.cell p))) (hw : ρ[w]? = some (some (.int i))) (hp : cs p = some (.lst xs)) (ha : atI xs i = some (.cell q)) (hc : cs q = some (.lst ys)) (hj : ixN ys.length j = some k) (h : Φ ρ (setc cs q (.lst (ys.set k x)))) : dgSub (dOp wIxA (dVar v) (dVar w)) (dC (.int j)) x ρ cs Φ Ψ := by
  simp only [dgSub, dOp, dVar, hv, hw, wIxA, hp, dC]
  refine ⟨_, ha, ?_⟩
  simp only [wSet, hc]
  exact ⟨k, hj, h⟩
theorem nest_get {v w : Nat} {j i : Int} {ρ : EnvD} {cs : Cs} {Φ : D → Cs → Prop} {Ψ : EK} {xs ys : List D} {d : D} (hv : ρ[v]? = some (some (.lst xs))) (hw : ρ[w]? = some (some (.int i))) (ha : atI xs i = some (.lst ys)) (hj : atI ys j = some d) (h : Φ d cs) : dOp wIxA (dOp wIxA (dVar v) (dVar w)) (dC (.int j)) ρ cs Φ Ψ := by
  simp only [dOp, dVar, hv, hw, wIxA, dC]
  exact ⟨_, ha, d, hj, h⟩
end LS
namespace LS
open PySem PySem.Spec PyProof.Rows L2 DL
def alk (t : T) (p : Nat) : List Nat := (List.range t.n).filter fun j => decide (t.c j = t.c p)
theorem alk_mem {t : T} {p j : Nat} : j ∈ alk t p ↔ j < t.n ∧ t.c j = t.c p := by simp [alk]
theorem alk_asc {t : T} {p : Nat} : (alk t p).Pairwise (· < ·) := List.Pairwise.filter _ List.pairwise_lt_range
theorem alk_len {t : T} {p : Nat} : (alk t p).length ≤ t.n := by
  have := List.length_filter_le (fun j => decide (t.c j = t.c p)) (List.range t.n)
  simpa [alk] using this
theorem alk_goal {t : T} {p : Nat} {q δ : Int} (h : Mid t q δ) (hp : p < t.n) (hd : δ = 1 ∨ δ = -1) : ∃ g : Nat, atI ((alk t p).map fun (j : Nat) => D.int (j : Int)) (if δ = 1 then -1 else 0) = some (.int (g : Int)) ∧ Goal t p g δ := by
  have m : p ∈ alk t p := alk_mem.mpr ⟨hp, rfl⟩
  obtain ⟨k, hk, ek⟩ := List.getElem_of_mem m
  have asc := List.pairwise_iff_getElem.mp (alk_asc (t := t) (p := p))
  have bd : ∀ j, j < t.n → t.c j = t.c p → ∃ l, ∃ hl : l < (alk t p).length, (alk t p)[l] = j := fun j h1 h2 => List.getElem_of_mem (alk_mem.mpr ⟨h1, h2⟩)
  rcases hd with rfl | rfl
  · have hl : (alk t p).length - 1 < (alk t p).length := by omega
    have gm := alk_mem.mp (List.getElem_mem hl)
    refine ⟨(alk t p)[(alk t p).length - 1], ?_, hp, gm.1, gm.2, fun _ => ⟨?_, fun h1 => ?_⟩, fun e => by omega⟩
    · rw [if_pos rfl]
      unfold atI ixN
      rw [if_neg (by omega), if_pos (by simp; omega)]
      simp only [List.length_map]
      rw [show (-1 + (((alk t p).length : Nat) : Int)).toNat = (alk t p).length - 1 by omega]
      show ((alk t p).map fun (j : Nat) => D.int (j : Int))[(alk t p).length - 1]? = _
      rw [List.getElem?_map, List.getElem?_eq_getElem hl]
      rfl
    · by_cases e : k = (alk t p).length - 1
      · subst e; omega
      · have := asc k _ hk hl (by omega); omega
    · have s := h.srt _ h1
      by_cases e : t.c ((alk t p)[(alk t p).length - 1] + 1) = t.c p
      · obtain ⟨l, hl2, e2⟩ := bd _ h1 e
        by_cases z : l = (alk t p).length - 1
        · subst z; omega
        · have := asc l _ hl2 hl (by omega); omega
      · have := gm.2; omega
  · have hl : 0 < (alk t p).length := by omega
    have gm := alk_mem.mp (List.getElem_mem hl)
    refine ⟨(alk t p)[0], ?_, hp, gm.1, gm.2, fun e => by omega, fun _ => ⟨?_, fun h1 => ?_⟩⟩
    · rw [if_neg (by omega)]
      exact atI_nat (j := 0) (by rw [List.getElem?_map, List.getElem?_eq_getElem hl]; rfl)
    · by_cases e : k = 0
      · subst e; omega
      · have := asc 0 k hl hk (by omega); omega
    · have s := h.srt ((alk t p)[0] - 1) (by omega)
      rw [show (alk t p)[0] - 1 + 1 = (alk t p)[0] by omega] at s
      by_cases e : t.c ((alk t p)[0] - 1) = t.c p
      · obtain ⟨l, hl2, e2⟩ := bd _ (by omega) e
        by_cases z : l = 0
        · subst z; omega
        · have := asc 0 l hl hl2 (by omega); omega
      · have := gm.2; omega
theorem NR.bump {cs cs' : Cs} {p : Addr} {qa : Nat → Addr} {t : T} {g : Nat} {δ : Int} (n : NR cs cs' p qa t) (hg : g < t.n) : NR cs (setc cs' (qa g) (.lst [.int (t.k g), .int (t.c g + δ), .int (t.u g)])) p qa (bump t g δ) := by
  refine ⟨?_, fun i hi => ?_, n.fp, n.fq, n.inj, n.ne, fun b hb hbq => ?_⟩
  · rw [setc_ne (n.ne g hg).symm]; exact n.hp
  · have hi : i < t.n := hi
    show _ = some (Ct.lst [.int (t.k i), .int (if i = g then t.c i + δ else t.c i), .int (t.u i)])
    by_cases e : i = g
    · subst e; rw [setc_same, if_pos rfl]
    · rw [setc_ne fun z => e (n.inj i g hi hg z), if_neg e]; exact n.hq i hi
  · rw [setc_ne (hbq g hg)]; exact n.others b hb hbq
theorem var_at {i : Nat} {ρ : EnvD} {cs : Cs} {Φ : D → Cs → Prop} {Ψ : EK} {d : D} (h : ρ[i]? = some (some d)) (q : Φ d cs) : dVar i ρ cs Φ Ψ := by
  simp only [dVar, h]; exact q
theorem add_ii {m : NewM} {a b : Int} {cs : Cs} {Φ : D → Cs → Prop} (h : Φ (.int (a + b)) cs) : wAdd m (.int a) (.int b) cs Φ := h
theorem nest_getc {v w : Nat} {j i : Int} {ρ : EnvD} {cs : Cs} {Φ : D → Cs → Prop} {Ψ : EK} {p q : Addr} {xs ys : List D} {d : D} (hv : ρ[v]? = some (some (.cell p))) (hw : ρ[w]? = some (some (.int i))) (hp : cs p = some (.lst xs)) (ha : atI xs i = some (.cell q)) (hc : cs q = some (.lst ys)) (hj : atI ys j = some d) (h : Φ d cs) : dOp wIxA (dOp wIxA (dVar v) (dVar w)) (dC (.int j)) ρ cs Φ Ψ := by
  simp only [dOp, dVar, hv, hw, wIxA, hp, dC]
  refine ⟨_, ha, ?_⟩
  simp only [hc]
  exact ⟨d, hj, h⟩
end LS
namespace LS
open PySem PySem.Spec PyProof.Rows L2 DL
theorem Right.k0 {t : T} (r : Right t) : t.n ≥ 1 ∧ t.k (t.n - 1 + 0) = t.k (t.n - 1) := ⟨by have := r.mid.odd; omega, rfl⟩
end LS
namespace LS
open PySem PySem.Spec PyProof.Rows L2 DL
end LS
namespace LS
open PySem PySem.Spec PyProof.Rows L2 DL
theorem Mk_init {l ls : List (Int × Int)} (h : CLo l) (pm : ls.Perm (l.map sw ++ [(1, 256)])) (o : ls.Pairwise fun p q => p.1 * 1048576 + p.2 ≤ q.1 * 1048576 + q.2) : Mk (l.length + 1) T0 0 ls := by
  have ok : ∀ p ∈ ls, 1 ≤ p.1 ∧ p.1 ≤ 1000000 ∧ 0 ≤ p.2 ∧ p.2 ≤ 256 := fun p hp => by
    rcases List.mem_append.mp (pm.mem_iff.mp hp) with hp | hp
    · obtain ⟨q, hq, rfl⟩ := List.mem_map.mp hp
      have := h.ok q hq
      simp only [sw]; omega
    · rw [List.mem_singleton] at hp; subst hp; simp
  refine ⟨fun i hi => ?_, fun i hi => ?_, Nat.zero_le _, ?_, ?_, ok, fun h => ?_, fun h => ?_, fun x hx => by omega, fun x y hx hy => by omega, fun i _ hi => ?_, fun i hi => ?_, fun i hi => ?_, fun i hi => ?_, fun i j hi => ?_, ?_, fun i hi => ?_, .inl (pm.mem_iff.mpr (by simp))⟩
  all_goals try (exact absurd hi (Nat.not_lt_zero _))
  all_goals try (exact absurd h (Nat.not_lt_zero _))
  · have := pm.length_eq
    simp at this
    show ls.length + 0 = l.length + 1 + 0
    omega
  · refine List.Pairwise.imp_of_mem ?_ o
    intro p q hp hq e
    have := ok p hp
    have := ok q hq
    omega
  · refine pm.symm.pairwise (R := fun p q => p.2 ≠ q.2) ?_ (fun {a b} ne => Ne.symm ne)
    rw [List.pairwise_append]
    refine ⟨?_, by simp, fun p hp q hq => ?_⟩
    · rw [List.pairwise_map]
      exact h.asc.imp fun {a b} e => by simp only [sw]; omega
    · obtain ⟨r, hr, rfl⟩ := List.mem_map.mp hp
      rw [List.mem_singleton] at hq; subst hq
      have := h.ok r hr
      simp only [sw]; omega
theorem NR.zero {cs : Cs} {p : Addr} (h : cs p = none) : NR cs (setc cs p (.lst [])) p (fun _ => 0) T0 :=
  ⟨setc_same, fun i hi => absurd hi (Nat.not_lt_zero _), h, fun i hi => absurd hi (Nat.not_lt_zero _), fun i j hi => absurd hi (Nat.not_lt_zero _), fun i hi => absurd hi (Nat.not_lt_zero _), fun b hb _ => setc_ne hb⟩
theorem NR.push {cs cs' : Cs} {p q : Addr} {qa : Nat → Addr} {t : T} {z v : Int} (n : NR cs cs' p qa t) (hq : cs' q = none) :
    NR cs (setc (setc cs' q (.lst [.int z, .int v, .int (-1)])) p (.lst ((List.range t.n).map (fun i => D.cell (qa i)) ++ [.cell q]))) p (upq qa t.n q) (push t z v) := by
  have qp : q ≠ p := fun e => by rw [e, n.hp] at hq; cases hq
  have qq : ∀ i, i < t.n → qa i ≠ q := fun i hi e => by rw [← e, n.hq i hi] at hq; cases hq
  have fq : cs q = none := by rw [← n.others q qp fun i hi e => qq i hi e.symm]; exact hq
  have up : ∀ i, i ≠ t.n → upq qa t.n q i = qa i := fun i h => upq_ne h
  refine ⟨?_, fun i hi => ?_, n.fp, fun i hi => ?_, fun i j hi hj e => ?_, fun i hi => ?_, fun b hb hbq => ?_⟩
  · rw [setc_same]
    show _ = some (Ct.lst ((List.range (t.n + 1)).map fun i => D.cell (upq qa t.n q i)))
    rw [range_map_succ, upq_same]
    congr 2
    congr 1
    exact List.map_congr_left fun i hi => by rw [up i (by have := List.mem_range.mp hi; omega)]
  · have hi : i < t.n + 1 := hi
    by_cases e : i = t.n
    · rw [e, upq_same, setc_ne qp, setc_same, push_kn, push_cn, push_un]
    · rw [up i e, setc_ne (n.ne i (by omega)), setc_ne (qq i (by omega)), push_k e, push_c e, push_u e]; exact n.hq i (by omega)
  · have hi : i < t.n + 1 := hi
    by_cases e : i = t.n
    · rw [e, upq_same]; exact fq
    · rw [up i e]; exact n.fq i (by omega)
  · have hi : i < t.n + 1 := hi
    have hj : j < t.n + 1 := hj
    by_cases ei : i = t.n
    · by_cases ej : j = t.n
      · omega
      · rw [ei, upq_same, up j ej] at e; exact absurd e.symm (qq j (by omega))
    · by_cases ej : j = t.n
      · rw [ej, upq_same, up i ei] at e; exact absurd e (qq i (by omega))
      · rw [up i ei, up j ej] at e; exact n.inj i j (by omega) (by omega) e
  · have hi : i < t.n + 1 := hi
    by_cases e : i = t.n
    · rw [e, upq_same]; exact qp
    · rw [up i e]; exact n.ne i (by omega)
  · have bq : b ≠ q := by have := hbq t.n (by show t.n < t.n + 1; omega); rwa [upq_same] at this
    rw [setc_ne hb, setc_ne bq]
    exact n.others b hb fun i hi => by have := hbq i (by show i < t.n + 1; omega); rwa [up i (by omega)] at this
def setU (t : T) (i : Nat) (w : Int) : T := { t with u := fun j => if j = i then w else t.u j }
theorem NR.setU {cs cs' : Cs} {p : Addr} {qa : Nat → Addr} {t : T} {g : Nat} {w : Int} (n : NR cs cs' p qa t) (hg : g < t.n) : NR cs (setc cs' (qa g) (.lst [.int (t.k g), .int (t.c g), .int w])) p qa (setU t g w) := by
  refine ⟨?_, fun i hi => ?_, n.fp, n.fq, n.inj, n.ne, fun b hb hbq => ?_⟩
  · rw [setc_ne (n.ne g hg).symm]; exact n.hp
  · have hi : i < t.n := hi
    show _ = some (Ct.lst [.int (t.k i), .int (t.c i), .int (if i = g then w else t.u i)])
    by_cases e : i = g
    · subst e; rw [setc_same, if_pos rfl]
    · rw [setc_ne fun z => e (n.inj i g hi hg z), if_neg e]; exact n.hq i hi
  · rw [setc_ne (hbq g hg)]; exact n.others b hb hbq
theorem hang2_eq {t : T} {d : Nat} {q : Int} : LS.setU (LS.setU t (2 * d) q) (2 * d + 1) q = hang2 t d q := by
  unfold hang2 LS.setU
  congr 1
  funext i
  by_cases e : i = 2 * d + 1
  · rw [if_pos e, if_pos (.inr e)]
  · rw [if_neg e]
    show (if i = 2 * d then q else t.u i) = _
    by_cases e2 : i = 2 * d
    · rw [if_pos e2, if_pos (.inl e2)]
    · rw [if_neg e2, if_neg (by omega)]
def Q1 (t : T) (x : Nat) : D := .tup [.int (psum t x), .lst [.int (2 * (x : Int)), .int (2 * (x : Int) + 1)]]
def Qs (t : T) (d : Nat) : List D := (List.range (t.n / 2 - d)).map fun x => Q1 t (x + d)
theorem cutD_tl {a : D} {xs : List D} : DL.cutD (a :: xs) (some 1) none = xs := by
  have e1 : HT.sIx (a :: xs).length 0 (some (1 : Int)) = 1 := by
    have := HT.sIx_nat (a :: xs).length 0 1
    rw [show (((1 : Nat) : Int)) = 1 from rfl] at this
    rw [this, List.length_cons]; omega
  have e2 : HT.sIx (a :: xs).length (a :: xs).length none = (a :: xs).length := rfl
  unfold DL.cutD
  rw [e1, e2]
  simp
theorem Qs_head {t : T} {d : Nat} (h : 2 * d + 1 < t.n) : Qs t d = Q1 t d :: (List.range (t.n / 2 - (d + 1))).map fun x => Q1 t (x + (d + 1)) := by
  unfold Qs
  rw [show t.n / 2 - d = (t.n / 2 - (d + 1)) + 1 by omega, List.range_succ_eq_map]
  simp [Nat.add_assoc, Nat.add_comm, Nat.add_left_comm]
theorem Qs_nil {t : T} {d : Nat} (h : ¬ 2 * d + 1 < t.n) : Qs t d = [] := by
  unfold Qs
  rw [show t.n / 2 - d = 0 by omega]; rfl
theorem Qs_push {t : T} {d : Nat} {z v : Int} (hd : 2 * d ≤ t.n) : Qs (push t z v) d = Qs t d ++ (if (t.n + 1) % 2 = 0 then [Q1 (push t z v) (t.n / 2)] else []) := by
  have keep : ∀ x, x ∈ List.range (t.n / 2 - d) → Q1 (push t z v) (x + d) = Q1 t (x + d) := fun x hx => by
    have := List.mem_range.mp hx
    unfold Q1; rw [push_sum (by omega)]
  unfold Qs
  show (List.range ((t.n + 1) / 2 - d)).map _ = _
  by_cases e : (t.n + 1) % 2 = 0
  · rw [if_pos e, show (t.n + 1) / 2 - d = (t.n / 2 - d) + 1 by omega, range_map_succ, List.map_congr_left keep, show t.n / 2 - d + d = t.n / 2 by omega]
  · rw [if_neg e, show (t.n + 1) / 2 - d = t.n / 2 - d by omega, List.map_congr_left keep, List.append_nil]
theorem Qs_hang {t : T} {d e : Nat} {q : Int} : Qs (hang2 t d q) e = Qs t e := rfl
def eL (ls : List (Int × Int)) : List D := ls.map fun p => D.tup [.int p.1, .int p.2]
def below (d : Nat) (b : Bool) : List D := if b then [.int (2 * (d : Int)), .int (2 * (d : Int) + 1)] else []
def grow (t : T) (d : Nat) (b : Bool) (z v : Int) : T := if b then hang2 (push t z v) d t.n else push t z v
end LS
namespace LS
open PySem PySem.Spec PyProof.Rows L2 DL
theorem mf_l {m : MA} : (mf m).lookup ("leaves" : Str) = some (.cell m.l) := rfl
theorem mf_p {m : MA} : (mf m).lookup ("pairs" : Str) = some (.cell m.p) := rfl
theorem mf_r {m : MA} : (mf m).lookup ("row" : Str) = some (.cell m.r) := rfl
theorem mf_pl {m : MA} : (mf m).lookup ("place_least" : Str) = none := rfl
theorem mf_j {m : MA} : (mf m).lookup ("join" : Str) = none := rfl
theorem mf_m {m : MA} : (mf m).lookup ("many" : Str) = none := rfl
theorem Ext.trans {a b c : Cs} (h : Ext a b) (k : Ext b c) : Ext a c := fun x y e => k x y (h x y e)
theorem fresh0 {cs cs1 : Cs} {p : Addr} (e1 : Ext cs cs1) (hp : cs1 p = none) : cs p = none := by
  cases e : cs p with
  | none => rfl
  | some c => rw [e1 p c e] at hp; cases hp
theorem h_Making_many (cl : Str → Addr) : DOk (P_Making_many cl) (w_Making_many cl) 1 := by
  rintro ds cs Φ Ψ ⟨cs0, a, m, s, e, rfl, M, hq⟩
  have := M.n1
  simp [-List.lookup_eq_none_iff, dSeq, dIf, dB, dOp, dVar, dC, dUn, dAsg, dCB, dCons, dNil, dgName, dgSub, dRet, dRetN, dDrop, dNext, dBreak, dCont, dNever, dIfE, dAnd, dOr, dNot, dTru, dAndV, dOrV, dNotV, dTup, dLst, nF, nC, dFld, dSetF, dCall, dMeth, dMake, dPar, dPar3, dgTup, dgCons, dgNil, dAug, dAugS2, dAugF, dBM, dBM0, dChain, dYes, dSl, dPart, dNoPart, wSl, wLt, wLe, wGt, wGe, wI, wI0, wAdd, wSub, wMod, wDiv, wPow, wMul, wEq, wEqB, wNe, wIsN, wIsB, wLen, wInt, wMax2, wMin2, wI2, wIxA, wSet, wGetC, wIp, wTupleOf, wStrI, wIsi, wIn, wInT, wAppend, wPop, wInsert, wLM, wGet, dkey, startD, tru, dty, lq, dRevL, putD, CDiv, CMul, CPow, setc_same, setc_setc, w_Making_many, M.o, mf_l, mf_p, M.hl, M.hp, eLs, Qp]
  simpa using hq
theorem put_p {la p : Addr} : putD "pairs" (.cell p) [("leaves", D.cell la)] = ([("leaves", .cell la), ("pairs", .cell p)] : List (Str × D)) := by
  unfold putD
  rw [if_neg (by decide)]; rfl
theorem put_r {la p r : Addr} : putD "row" (.cell r) [("leaves", D.cell la), ("pairs", .cell p)] = ([("leaves", .cell la), ("pairs", .cell p), ("row", .cell r)] : List (Str × D)) := by
  unfold putD
  rw [if_neg (by decide)]
  unfold putD
  rw [if_neg (by decide)]; rfl
theorem h_Making___init__ (cl : Str → Addr) : DOk (P_Making___init__ cl) (w_Making___init__ cl) 2 := by
  rintro ds cs Φ Ψ ⟨a, la, ls, cs0, rfl, ho, hl, al, hn, ext, fa, fl, hq⟩
  simp [-List.lookup_eq_none_iff, dSeq, dIf, dB, dOp, dVar, dC, dUn, dAsg, dCB, dCons, dNil, dgName, dgSub, dRet, dRetN, dDrop, dNext, dBreak, dCont, dNever, dIfE, dAnd, dOr, dNot, dTru, dAndV, dOrV, dNotV, dTup, dLst, nF, nC, dFld, dSetF, dCall, dMeth, dMake, dPar, dPar3, dgTup, dgCons, dgNil, dAug, dAugS2, dAugF, dBM, dBM0, dChain, dYes, dSl, dPart, dNoPart, wSl, wLt, wLe, wGt, wGe, wI, wI0, wAdd, wSub, wMod, wDiv, wPow, wMul, wEq, wEqB, wNe, wIsN, wIsB, wLen, wInt, wMax2, wMin2, wI2, wIxA, wSet, wGetC, wIp, wTupleOf, wStrI, wIsi, wIn, wInT, wAppend, wPop, wInsert, wLM, wGet, dkey, startD, tru, dty, lq, dRevL, putD, CDiv, CMul, CPow, setc_same, setc_setc, w_Making___init__, ho]
  intro p hp
  have ap : a ≠ p := fun e => by rw [← e, setc_same] at hp; cases hp
  rw [setc_ne ap.symm] at hp
  refine ⟨[("leaves", .cell la)], by rw [setc_ne ap, setc_same], by simp, fun r hr => ?_⟩
  have ar : a ≠ r := fun e => by rw [← e, setc_same] at hr; cases hr
  rw [setc_ne ar.symm] at hr
  have pr : p ≠ r := fun e => by rw [← e, setc_same] at hr; cases hr
  rw [setc_ne pr.symm, setc_ne ar.symm] at hr
  rw [put_p]
  refine ⟨[("leaves", .cell la), ("pairs", .cell p)], by rw [setc_ne ar, setc_same], by simp, ?_⟩
  rw [put_r]
  have lp : la ≠ p := ne_of_cs hl hp
  have lr : la ≠ r := ne_of_cs hl hr
  refine hq _ ⟨la, p, r, fun _ => 0⟩ ⟨?_, ?_, ?_, ?_, fun i hi => absurd hi (Nat.not_lt_zero _), ?_, fun i hi => absurd hi (Nat.not_lt_zero _), fun i j hi => absurd hi (Nat.not_lt_zero _), fun b c hb => ?_, ⟨fa, fl, fresh0 ext hp, fresh0 ext hr, fun i hi => absurd hi (Nat.not_lt_zero _)⟩, ⟨Nat.zero_le _, hn, Nat.zero_le _⟩⟩
  · rw [setc_same]; rfl
  · rw [setc_ne al.symm, setc_ne lr, setc_ne al.symm, setc_ne lp, setc_ne al.symm]; exact hl
  · rw [setc_ne ap.symm, setc_ne pr, setc_ne ap.symm, setc_same]; rfl
  · rw [setc_ne ar.symm, setc_same]; rfl
  · simp [al, ap, ar, lp, lr, pr]
  · have ba := ne_of_cs hb fa
    have bp := ne_of_cs (ext b c hb) hp
    have br := ne_of_cs (ext b c hb) hr
    rw [setc_ne ba, setc_ne br, setc_ne ba, setc_ne bp, setc_ne ba]
    exact ext b c hb
end LS
namespace LS
open PySem PySem.Spec PyProof.Rows L2 DL
section
variable {cl : Str → Addr} {cs0 cs : Cs} {a : Addr} {m : MA} {t : T} {d e : Nat} {ls : List (Int × Int)}
theorem MkO.ne (M : MkO cl cs0 cs a m (t, d, ls) e) : a ≠ m.l ∧ a ≠ m.p ∧ a ≠ m.r ∧ m.l ≠ m.p ∧ m.l ≠ m.r ∧ m.p ≠ m.r := by
  have := M.nd
  simp at this
  exact ⟨this.1.1, this.1.2.1, this.1.2.2, this.2.1.1, this.2.1.2, this.2.2⟩
theorem MkO.leaves (M : MkO cl cs0 cs a m (t, d, ls) e) (ls' : List (Int × Int)) (h : ls'.length ≤ 1000) : MkO cl cs0 (setc cs m.l (.lst (eLs ls'))) a m (t, d, ls') e := by
  obtain ⟨n1, n2, n3, n4, n5, n6⟩ := M.ne
  exact ⟨by rw [setc_ne n1]; exact M.o, setc_same, by rw [setc_ne n4.symm]; exact M.hp, by rw [setc_ne n5.symm]; exact M.hr, fun i hi => by rw [setc_ne (M.nq i hi).2.1]; exact M.hq i hi, M.nd, M.nq, M.inj,
    fun b c hb => by rw [setc_ne (ne_of_cs hb M.fr.2.1)]; exact M.ext b c hb, M.fr, ⟨M.n1.1, h, M.n1.2.2⟩⟩
theorem MkO.pairs (M : MkO cl cs0 cs a m (t, d, ls) e) (d' e' : Nat) (h : e' ≤ 1000) : MkO cl cs0 (setc cs m.p (.lst (Qp t d' e'))) a m (t, d', ls) e' := by
  obtain ⟨n1, n2, n3, n4, n5, n6⟩ := M.ne
  exact ⟨by rw [setc_ne n2]; exact M.o, by rw [setc_ne n4]; exact M.hl, setc_same, by rw [setc_ne n6.symm]; exact M.hr, fun i hi => by rw [setc_ne (M.nq i hi).2.2.1]; exact M.hq i hi, M.nd, M.nq, M.inj,
    fun b c hb => by rw [setc_ne (ne_of_cs hb M.fr.2.2.1)]; exact M.ext b c hb, M.fr, ⟨M.n1.1, M.n1.2.1, h⟩⟩
theorem Qp_push {z v : Int} (h : e ≤ t.n / 2) : Qp (push t z v) d e = Qp t d e := by
  unfold Qp
  apply List.map_congr_left
  intro x hx
  have := List.mem_range.mp hx
  unfold Qt
  rw [push_sum (by omega)]
theorem MkO.push (M : MkO cl cs0 cs a m (t, d, ls) e) {z v : Int} {q : Addr} (hq : cs q = none) (he : e ≤ t.n / 2) (hn : t.n < 1000) :
    MkO cl cs0 (setc (setc cs q (.lst [.int z, .int v, .int (-1)])) m.r (.lst (((List.range t.n).map fun i => D.cell (m.q i)) ++ [.cell q]))) a ⟨m.l, m.p, m.r, fun i => if i = t.n then q else m.q i⟩ (LS.push t z v, d, ls) e := by
  obtain ⟨n1, n2, n3, n4, n5, n6⟩ := M.ne
  have aq : a ≠ q := ne_of_cs M.o hq
  have lq' : m.l ≠ q := ne_of_cs M.hl hq
  have pq : m.p ≠ q := ne_of_cs M.hp hq
  have rq : m.r ≠ q := ne_of_cs M.hr hq
  have iq : ∀ i, i < t.n → m.q i ≠ q := fun i hi => ne_of_cs (M.hq i hi) hq
  have cases_ : ∀ {i : Nat}, i < t.n + 1 → i = t.n ∨ i < t.n := fun {i} h => by omega
  refine ⟨by rw [setc_ne n3, setc_ne aq]; exact M.o, by rw [setc_ne n5, setc_ne lq']; exact M.hl, ?_, ?_, fun i hi => ?_, M.nd, fun i hi => ?_, fun i j hi hj e => ?_, fun b c hb => ?_, ⟨M.fr.1, M.fr.2.1, M.fr.2.2.1, M.fr.2.2.2.1, fun i hi => ?_⟩, ⟨?_, M.n1.2⟩⟩
  · rw [setc_ne n6, setc_ne pq]
    show cs m.p = some (.lst (Qp (LS.push t z v) d e))
    rw [Qp_push he]; exact M.hp
  · rw [setc_same]
    show _ = some (Ct.lst ((List.range (t.n + 1)).map fun i => D.cell (if i = t.n then q else m.q i)))
    rw [List.range_succ, List.map_append]
    congr 2
    · congr 1
      · apply List.map_congr_left
        intro i hi
        have := List.mem_range.mp hi
        rw [if_neg (by omega)]
      · simp
  · rcases cases_ hi with rfl | hi
    · show _ = some (Ct.lst [.int ((LS.push t z v).k t.n), .int ((LS.push t z v).c t.n), .int ((LS.push t z v).u t.n)])
      rw [push_kn, push_cn, push_un]
      simp only [if_true]
      rw [setc_ne rq.symm, setc_same]
    · show (setc (setc cs q _) m.r _) (if i = t.n then q else m.q i) = some (Ct.lst [.int ((LS.push t z v).k i), .int ((LS.push t z v).c i), .int ((LS.push t z v).u i)])
      rw [push_k (by omega), push_c (by omega), push_u (by omega), if_neg (by omega), setc_ne (M.nq i hi).2.2.2, setc_ne (iq i hi)]
      exact M.hq i hi
  · show (if i = t.n then q else m.q i) ≠ a ∧ (if i = t.n then q else m.q i) ≠ m.l ∧ (if i = t.n then q else m.q i) ≠ m.p ∧ (if i = t.n then q else m.q i) ≠ m.r
    rcases cases_ hi with rfl | hi
    · simp only [if_true]; exact ⟨aq.symm, lq'.symm, pq.symm, rq.symm⟩
    · rw [if_neg (by omega)]; exact M.nq i hi
  · have e : (if i = t.n then q else m.q i) = (if j = t.n then q else m.q j) := e
    rcases cases_ hi with rfl | hi <;> rcases cases_ hj with rfl | hj
    · rfl
    · rw [if_pos rfl, if_neg (by omega)] at e; exact absurd e.symm (iq j hj)
    · rw [if_pos rfl, if_neg (by omega)] at e; exact absurd e (iq i hi)
    · rw [if_neg (by omega), if_neg (by omega)] at e; exact M.inj i j hi hj e
  · rw [setc_ne (ne_of_cs hb M.fr.2.2.2.1), setc_ne (ne_of_cs (M.ext b c hb) hq)]; exact M.ext b c hb
  · show cs0 (if i = t.n then q else m.q i) = none
    rcases cases_ hi with rfl | hi
    · simp only [if_true]; exact fresh0 M.ext hq
    · rw [if_neg (by omega)]; exact M.fr.2.2.2.2 i hi
  · show t.n + 1 ≤ 1000; omega
def setUp (t : T) (i : Nat) (w : Int) : T := { t with u := fun j => if j = i then w else t.u j }
theorem setUp_hang {q : Int} : setUp (setUp t (2 * d) q) (2 * d + 1) q = hang2 t d q := by
  unfold setUp hang2
  congr 1
  funext j
  simp only
  by_cases h : j = 2 * d + 1
  · simp [h]
  · by_cases h2 : j = 2 * d
    · simp [h2]
    · simp [h, h2]
theorem MkO.setUp (M : MkO cl cs0 cs a m (t, d, ls) e) {g : Nat} {w : Int} (hg : g < t.n) : MkO cl cs0 (setc cs (m.q g) (.lst [.int (t.k g), .int (t.c g), .int w])) a m (LS.setUp t g w, d, ls) e := by
  obtain ⟨n1, n2, n3, n4⟩ := M.nq g hg
  refine ⟨by rw [setc_ne n1.symm]; exact M.o, by rw [setc_ne n2.symm]; exact M.hl, by rw [setc_ne n3.symm]; exact M.hp, by rw [setc_ne n4.symm]; exact M.hr, fun i hi => ?_, M.nd, M.nq, M.inj, fun b c hb => ?_, M.fr, M.n1⟩
  · show _ = some (Ct.lst [.int (t.k i), .int (t.c i), .int (if i = g then w else t.u i)])
    by_cases e : i = g
    · subst e; rw [setc_same, if_pos rfl]
    · rw [setc_ne (fun h => e (M.inj i g hi hg h)), if_neg e]; exact M.hq i hi
  · rw [setc_ne (ne_of_cs hb (M.fr.2.2.2.2 g hg))]; exact M.ext b c hb
end
end LS
namespace LS
open PySem PySem.Spec PyProof.Rows L2 DL
theorem at0 {α : Type} {a : α} {xs : List α} : atI (a :: xs) 0 = some a := atI_nat (j := 0) rfl
theorem at2_0 {a b : D} : atI [a, b] 0 = some a := rfl
theorem at2_1 {a b : D} : atI [a, b] 1 = some b := rfl
theorem si0 {n : Nat} (h : 0 < n) : seqIndex? 0 n = some 0 := by
  unfold seqIndex?
  simp [h]
def bel (d : Nat) (b : Bool) : List D := if b then [.int (2 * (d : Int)), .int (2 * (d : Int) + 1)] else []
def gro (t : T) (d : Nat) (b : Bool) (z v : Int) : T := if b then hang2 (push t z v) d t.n else push t z v
theorem Qp_head {t : T} {d e : Nat} (h : d < e) : Qp t d e = Qt t d :: Qp t (d + 1) e := by
  unfold Qp
  rw [show e - d = (e - (d + 1)) + 1 by omega, List.range_succ_eq_map, List.map_cons, List.map_map]
  congr 1
  · simp
  · apply List.map_congr_left
    intro x _
    show Qt t (x + 1 + d) = Qt t (x + (d + 1))
    rw [show x + 1 + d = x + (d + 1) by omega]
theorem Qp_nil {t : T} {d e : Nat} (h : ¬ d < e) : Qp t d e = [] := by
  unfold Qp
  rw [show e - d = 0 by omega]; rfl
set_option maxHeartbeats 1000000 in
theorem h_Making_place_least (cl : Str → Addr) : DOk (P_Making_place_least cl) (w_Making_place_least cl) 6 := by
  rintro ds cs Φ Ψ ⟨cs0, a, m, ⟨t, d, ls⟩, e, rfl, M, he, hs, hn, hq⟩
  obtain ⟨n1, n2, n3, n4, n5, n6⟩ := M.ne
  have he : e = t.n / 2 := he
  have hn : t.n < 1000 := hn
  have Mn := M.n1
  unfold w_Making_place_least
  refine cut (fun ρ' cs' => ∃ z v b d' ls', ρ' = [some (.cell a), some (.int v), some (.int z), some (.tup (bel d b)), none, none] ∧ MkO cl cs0 cs' a m (t, d', ls') e ∧ stp (t, d, ls) = (gro t d b z v, d', ls') ∧ (b = true → 2 * d + 1 < t.n)) (fun B hB => ?_) ?_
  · have pairStep : ∀ (h2 : d < e), stp (t, d, ls) = (gro t d true (-1) (psum t d), d + 1, ls) → B [some (.cell a), some (.int (psum t d)), some (.int (-1)), some (.tup [.int (2 * (d : Int)), .int (2 * (d : Int) + 1)]), none, none] (setc cs m.p (.lst (Qp t (d + 1) e))) :=
      fun h2 hst => hB _ _ ⟨-1, psum t d, true, d + 1, ls, rfl, M.pairs (d + 1) e (by have := Mn.2.2; omega), hst, fun _ => by omega⟩
    have leafStep : ∀ v z ls', ls = (v, z) :: ls' → stp (t, d, ls) = (gro t d false z v, d, ls') → B [some (.cell a), some (.int v), some (.int z), some (.tup []), none, none] (setc cs m.l (.lst (eLs ls'))) :=
      fun v z ls' e1 hst => hB _ _ ⟨z, v, false, d, ls', rfl, M.leaves ls' (by have h := Mn.2.1; rw [e1] at h; simp at h; omega), hst, fun h => by cases h⟩
    have ho := M.o
    have hl := M.hl
    have hp := M.hp
    by_cases h2 : d < e
    · have hQ : Qp t d e = Qt t d :: Qp t (d + 1) e := Qp_head h2
      have lenQ : (Qp t (d + 1) e).length ≤ 1000 := by unfold Qp; simp; have := Mn.2.2; omega
      cases ls with
      | nil =>
        have ps := pairStep h2 rfl
        simp only [hQ] at hp
        simp [-List.lookup_eq_none_iff, dSeq, dIf, dB, dOp, dVar, dC, dUn, dAsg, dCB, dCons, dNil, dgName, dgSub, dRet, dRetN, dDrop, dNext, dBreak, dCont, dNever, dIfE, dAnd, dOr, dNot, dTru, dAndV, dOrV, dNotV, dTup, dLst, nF, nC, dFld, dSetF, dCall, dMeth, dMake, dPar, dPar3, dgTup, dgCons, dgNil, dAug, dAugS2, dAugF, dBM, dBM0, dChain, dYes, dSl, dPart, dNoPart, wSl, wLt, wLe, wGt, wGe, wI, wI0, wAdd, wSub, wMod, wDiv, wPow, wMul, wEq, wEqB, wNe, wIsN, wIsB, wLen, wInt, wMax2, wMin2, wI2, wIxA, wSet, wGetC, wIp, wTupleOf, wStrI, wIsi, wIn, wInT, wAppend, wPop, wInsert, wLM, wGet, dkey, startD, tru, dty, lq, dRevL, putD, CDiv, CMul, CPow, setc_same, setc_setc, ho, mf_l, mf_p, hl, hp, eLs, at0, at2_0, at2_1, Qt, tru, si0]
        exact ps
      | cons q ls' =>
        obtain ⟨v, z⟩ := q
        by_cases le : v ≤ psum t d
        · have lf := leafStep v z ls' rfl (by simp only [stp]; rw [if_neg (by omega)]; rfl)
          have hl' : cs m.l = some (.lst (D.tup [.int v, .int z] :: eLs ls')) := hl
          simp only [hQ] at hp
          simp [-List.lookup_eq_none_iff, dSeq, dIf, dB, dOp, dVar, dC, dUn, dAsg, dCB, dCons, dNil, dgName, dgSub, dRet, dRetN, dDrop, dNext, dBreak, dCont, dNever, dIfE, dAnd, dOr, dNot, dTru, dAndV, dOrV, dNotV, dTup, dLst, nF, nC, dFld, dSetF, dCall, dMeth, dMake, dPar, dPar3, dgTup, dgCons, dgNil, dAug, dAugS2, dAugF, dBM, dBM0, dChain, dYes, dSl, dPart, dNoPart, wSl, wLt, wLe, wGt, wGe, wI, wI0, wAdd, wSub, wMod, wDiv, wPow, wMul, wEq, wEqB, wNe, wIsN, wIsB, wLen, wInt, wMax2, wMin2, wI2, wIxA, wSet, wGetC, wIp, wTupleOf, wStrI, wIsi, wIn, wInT, wAppend, wPop, wInsert, wLM, wGet, dkey, startD, tru, dty, lq, dRevL, putD, CDiv, CMul, CPow, setc_same, setc_setc, ho, mf_l, mf_p, hl', hp, at0, at2_0, at2_1, Qt, tru, le, si0]
          exact lf
        · have ps := pairStep h2 (by simp only [stp]; rw [if_pos ⟨by omega, by omega⟩]; rfl)
          have hl' : cs m.l = some (.lst (D.tup [.int v, .int z] :: eLs ls')) := hl
          simp only [hQ] at hp
          simp [-List.lookup_eq_none_iff, dSeq, dIf, dB, dOp, dVar, dC, dUn, dAsg, dCB, dCons, dNil, dgName, dgSub, dRet, dRetN, dDrop, dNext, dBreak, dCont, dNever, dIfE, dAnd, dOr, dNot, dTru, dAndV, dOrV, dNotV, dTup, dLst, nF, nC, dFld, dSetF, dCall, dMeth, dMake, dPar, dPar3, dgTup, dgCons, dgNil, dAug, dAugS2, dAugF, dBM, dBM0, dChain, dYes, dSl, dPart, dNoPart, wSl, wLt, wLe, wGt, wGe, wI, wI0, wAdd, wSub, wMod, wDiv, wPow, wMul, wEq, wEqB, wNe, wIsN, wIsB, wLen, wInt, wMax2, wMin2, wI2, wIxA, wSet, wGetC, wIp, wTupleOf, wStrI, wIsi, wIn, wInT, wAppend, wPop, wInsert, wLM, wGet, dkey, startD, tru, dty, lq, dRevL, putD, CDiv, CMul, CPow, setc_same, setc_setc, ho, mf_l, mf_p, hl', hp, at0, at2_0, at2_1, Qt, tru, le, si0]
          exact ps
    · have hQ : Qp t d e = [] := Qp_nil h2
      cases ls with
      | nil => rcases hs with h | h; exact absurd h h2; exact absurd rfl h
      | cons q ls' =>
        obtain ⟨v, z⟩ := q
        have lf := leafStep v z ls' rfl (by simp only [stp]; rw [if_neg (by omega)]; rfl)
        have hl' : cs m.l = some (.lst (D.tup [.int v, .int z] :: eLs ls')) := hl
        simp only [hQ] at hp
        simp [-List.lookup_eq_none_iff, dSeq, dIf, dB, dOp, dVar, dC, dUn, dAsg, dCB, dCons, dNil, dgName, dgSub, dRet, dRetN, dDrop, dNext, dBreak, dCont, dNever, dIfE, dAnd, dOr, dNot, dTru, dAndV, dOrV, dNotV, dTup, dLst, nF, nC, dFld, dSetF, dCall, dMeth, dMake, dPar, dPar3, dgTup, dgCons, dgNil, dAug, dAugS2, dAugF, dBM, dBM0, dChain, dYes, dSl, dPart, dNoPart, wSl, wLt, wLe, wGt, wGe, wI, wI0, wAdd, wSub, wMod, wDiv, wPow, wMul, wEq, wEqB, wNe, wIsN, wIsB, wLen, wInt, wMax2, wMin2, wI2, wIxA, wSet, wGetC, wIp, wTupleOf, wStrI, wIsi, wIn, wInT, wAppend, wPop, wInsert, wLM, wGet, dkey, startD, tru, dty, lq, dRevL, putD, CDiv, CMul, CPow, setc_same, setc_setc, ho, mf_l, mf_p, hl', hp, at0, at2_0, at2_1, tru, si0]
        exact lf
  rintro _ cs1 ⟨z, v, b, d', ls', rfl, M1, hst, hb⟩
  have hr1 := M1.hr
  have ho1 := M1.o
  refine cut (fun ρ' cs' => ρ' = [some (.cell a), some (.int v), some (.int z), some (.tup (bel d b)), some (.int (t.n : Int)), none] ∧ cs1 = cs') (fun B hB => ?_) ?_
  · have q := hB _ _ ⟨rfl, rfl⟩
    simp [-List.lookup_eq_none_iff, dSeq, dIf, dB, dOp, dVar, dC, dUn, dAsg, dCB, dCons, dNil, dgName, dgSub, dRet, dRetN, dDrop, dNext, dBreak, dCont, dNever, dIfE, dAnd, dOr, dNot, dTru, dAndV, dOrV, dNotV, dTup, dLst, nF, nC, dFld, dSetF, dCall, dMeth, dMake, dPar, dPar3, dgTup, dgCons, dgNil, dAug, dAugS2, dAugF, dBM, dBM0, dChain, dYes, dSl, dPart, dNoPart, wSl, wLt, wLe, wGt, wGe, wI, wI0, wAdd, wSub, wMod, wDiv, wPow, wMul, wEq, wEqB, wNe, wIsN, wIsB, wLen, wInt, wMax2, wMin2, wI2, wIxA, wSet, wGetC, wIp, wTupleOf, wStrI, wIsi, wIn, wInT, wAppend, wPop, wInsert, wLM, wGet, dkey, startD, tru, dty, lq, dRevL, putD, CDiv, CMul, CPow, setc_same, setc_setc, ho1, mf_r, hr1]
    simpa using q
  rintro _ _ ⟨rfl, rfl⟩
  refine cut (fun ρ' cs' => ∃ m', ρ' = [some (.cell a), some (.int v), some (.int z), some (.tup (bel d b)), some (.int (t.n : Int)), none] ∧ MkO cl cs0 cs' a m' (push t z v, d', ls') e) (fun B hB => ?_) ?_
  · simp [-List.lookup_eq_none_iff, dSeq, dIf, dB, dOp, dVar, dC, dUn, dAsg, dCB, dCons, dNil, dgName, dgSub, dRet, dRetN, dDrop, dNext, dBreak, dCont, dNever, dIfE, dAnd, dOr, dNot, dTru, dAndV, dOrV, dNotV, dTup, dLst, nF, nC, dFld, dSetF, dCall, dMeth, dMake, dPar, dPar3, dgTup, dgCons, dgNil, dAug, dAugS2, dAugF, dBM, dBM0, dChain, dYes, dSl, dPart, dNoPart, wSl, wLt, wLe, wGt, wGe, wI, wI0, wAdd, wSub, wMod, wDiv, wPow, wMul, wEq, wEqB, wNe, wIsN, wIsB, wLen, wInt, wMax2, wMin2, wI2, wIxA, wSet, wGetC, wIp, wTupleOf, wStrI, wIsi, wIn, wInT, wAppend, wPop, wInsert, wLM, wGet, dkey, startD, tru, dty, lq, dRevL, putD, CDiv, CMul, CPow, setc_same, setc_setc, ho1, mf_r, hr1]
    intro q hq'
    have aq : a ≠ q := ne_of_cs ho1 hq'
    have rq : m.r ≠ q := ne_of_cs hr1 hq'
    simp [-List.lookup_eq_none_iff, dSeq, dIf, dB, dOp, dVar, dC, dUn, dAsg, dCB, dCons, dNil, dgName, dgSub, dRet, dRetN, dDrop, dNext, dBreak, dCont, dNever, dIfE, dAnd, dOr, dNot, dTru, dAndV, dOrV, dNotV, dTup, dLst, nF, nC, dFld, dSetF, dCall, dMeth, dMake, dPar, dPar3, dgTup, dgCons, dgNil, dAug, dAugS2, dAugF, dBM, dBM0, dChain, dYes, dSl, dPart, dNoPart, wSl, wLt, wLe, wGt, wGe, wI, wI0, wAdd, wSub, wMod, wDiv, wPow, wMul, wEq, wEqB, wNe, wIsN, wIsB, wLen, wInt, wMax2, wMin2, wI2, wIxA, wSet, wGetC, wIp, wTupleOf, wStrI, wIsi, wIn, wInT, wAppend, wPop, wInsert, wLM, wGet, dkey, startD, tru, dty, lq, dRevL, putD, CDiv, CMul, CPow, setc_same, setc_setc, setc_ne aq, setc_ne rq, ho1, mf_r, hr1]
    exact ⟨by omega, hB _ _ ⟨_, rfl, M1.push hq' (by omega) hn⟩⟩
  rintro _ cs2 ⟨m2, rfl, M2⟩
  refine cut (fun ρ' cs' => ∃ o5, ρ' = [some (.cell a), some (.int v), some (.int z), some (.tup (bel d b)), some (.int (t.n : Int)), o5] ∧ MkO cl cs0 cs' a m2 (gro t d b z v, d', ls') e) (fun B hB => ?_) ?_
  · rw [dFor_eq]
    cases b with
    | false =>
      simp [-List.lookup_eq_none_iff, dSeq, dIf, dB, dOp, dVar, dC, dUn, dAsg, dCB, dCons, dNil, dgName, dgSub, dRet, dRetN, dDrop, dNext, dBreak, dCont, dNever, dIfE, dAnd, dOr, dNot, dTru, dAndV, dOrV, dNotV, dTup, dLst, nF, nC, dFld, dSetF, dCall, dMeth, dMake, dPar, dPar3, dgTup, dgCons, dgNil, dAug, dAugS2, dAugF, dBM, dBM0, dChain, dYes, dSl, dPart, dNoPart, wSl, wLt, wLe, wGt, wGe, wI, wI0, wAdd, wSub, wMod, wDiv, wPow, wMul, wEq, wEqB, wNe, wIsN, wIsB, wLen, wInt, wMax2, wMin2, wI2, wIxA, wSet, wGetC, wIp, wTupleOf, wStrI, wIsi, wIn, wInT, wAppend, wPop, wInsert, wLM, wGet, dkey, startD, tru, dty, lq, dRevL, putD, CDiv, CMul, CPow, setc_same, setc_setc, diSeq, bel]
      refine for_gen (fun i ρ' cs' => ρ' = [some (.cell a), some (.int v), some (.int z), some (.tup []), some (.int (t.n : Int)), none] ∧ cs' = cs2) ⟨rfl, rfl⟩ (fun _ _ _ _ => trivial) (fun i ρ2 cs2 x h hx => by simp at hx) ?_
      rintro _ _ ⟨rfl, rfl⟩
      exact hB _ _ ⟨_, rfl, M2⟩
    | true =>
      have h2 := hb rfl
      simp [-List.lookup_eq_none_iff, dSeq, dIf, dB, dOp, dVar, dC, dUn, dAsg, dCB, dCons, dNil, dgName, dgSub, dRet, dRetN, dDrop, dNext, dBreak, dCont, dNever, dIfE, dAnd, dOr, dNot, dTru, dAndV, dOrV, dNotV, dTup, dLst, nF, nC, dFld, dSetF, dCall, dMeth, dMake, dPar, dPar3, dgTup, dgCons, dgNil, dAug, dAugS2, dAugF, dBM, dBM0, dChain, dYes, dSl, dPart, dNoPart, wSl, wLt, wLe, wGt, wGe, wI, wI0, wAdd, wSub, wMod, wDiv, wPow, wMul, wEq, wEqB, wNe, wIsN, wIsB, wLen, wInt, wMax2, wMin2, wI2, wIxA, wSet, wGetC, wIp, wTupleOf, wStrI, wIsi, wIn, wInT, wAppend, wPop, wInsert, wLM, wGet, dkey, startD, tru, dty, lq, dRevL, putD, CDiv, CMul, CPow, setc_same, setc_setc, diSeq, bel]
      refine for_gen (fun i ρ' cs' => ∃ o5, ρ' = [some (.cell a), some (.int v), some (.int z), some (.tup [.int (2 * (d : Int)), .int (2 * (d : Int) + 1)]), some (.int (t.n : Int)), o5] ∧ MkO cl cs0 cs' a m2 ((match i with | 0 => push t z v | 1 => setUp (push t z v) (2 * d) t.n | _ => setUp (setUp (push t z v) (2 * d) t.n) (2 * d + 1) t.n), d', ls') e) ⟨_, rfl, M2⟩ (fun _ _ _ _ => trivial) ?_ ?_
      · rintro i _ cs5 x ⟨o5, rfl, M5⟩ hx C2 hC2
        have i2 : ixN 3 2 = some 2 := rfl
        have i3 : ∀ {x y w : Int}, ixN [D.int x, D.int y, D.int w].length 2 = some 2 := rfl
        match i, hx, M5, hC2 with
        | 0, hx, M5, hC2 =>
          cases hx
          have M6 : MkO cl cs0 cs5 a m2 (push t z v, d', ls') e := M5
          have ho6 := M6.o
          have hr6 := M6.hr
          have hg : 2 * d < (push t z v).n := by show 2 * d < t.n + 1; omega
          have hq6 := M6.hq (2 * d) hg
          have ca := cell_at (qa := m2.q) hg
          rw [Int.natCast_mul] at ca
          have ca : atI ((List.range (push t z v).n).map fun i => D.cell (m2.q i)) (2 * (d : Int)) = some (.cell (m2.q (2 * d))) := ca
          have q := hC2 _ _ ⟨some (.int (2 * (d : Int))), rfl, M6.setUp (w := t.n) hg⟩
          simp [-List.lookup_eq_none_iff, dSeq, dIf, dB, dOp, dVar, dC, dUn, dAsg, dCB, dCons, dNil, dgName, dgSub, dRet, dRetN, dDrop, dNext, dBreak, dCont, dNever, dIfE, dAnd, dOr, dNot, dTru, dAndV, dOrV, dNotV, dTup, dLst, nF, nC, dFld, dSetF, dCall, dMeth, dMake, dPar, dPar3, dgTup, dgCons, dgNil, dAug, dAugS2, dAugF, dBM, dBM0, dChain, dYes, dSl, dPart, dNoPart, wSl, wLt, wLe, wGt, wGe, wI, wI0, wAdd, wSub, wMod, wDiv, wPow, wMul, wEq, wEqB, wNe, wIsN, wIsB, wLen, wInt, wMax2, wMin2, wI2, wIxA, wSet, wGetC, wIp, wTupleOf, wStrI, wIsi, wIn, wInT, wAppend, wPop, wInsert, wLM, wGet, dkey, startD, tru, dty, lq, dRevL, putD, CDiv, CMul, CPow, setc_same, setc_setc, ho6, mf_r, hr6, ca, hq6, i2]
          exact q
        | 1, hx, M5, hC2 =>
          cases hx
          have M6 : MkO cl cs0 cs5 a m2 (setUp (push t z v) (2 * d) t.n, d', ls') e := M5
          have ho6 := M6.o
          have hr6 := M6.hr
          have hg : 2 * d + 1 < (setUp (push t z v) (2 * d) t.n).n := by show 2 * d + 1 < t.n + 1; omega
          have hq6 := M6.hq (2 * d + 1) hg
          have ca := cell_at (qa := m2.q) hg
          have ca : atI ((List.range (setUp (push t z v) (2 * d) t.n).n).map fun i => D.cell (m2.q i)) (2 * (d : Int) + 1) = some (.cell (m2.q (2 * d + 1))) := ca
          have q := hC2 _ _ ⟨some (.int (2 * (d : Int) + 1)), rfl, M6.setUp (w := t.n) hg⟩
          simp [-List.lookup_eq_none_iff, dSeq, dIf, dB, dOp, dVar, dC, dUn, dAsg, dCB, dCons, dNil, dgName, dgSub, dRet, dRetN, dDrop, dNext, dBreak, dCont, dNever, dIfE, dAnd, dOr, dNot, dTru, dAndV, dOrV, dNotV, dTup, dLst, nF, nC, dFld, dSetF, dCall, dMeth, dMake, dPar, dPar3, dgTup, dgCons, dgNil, dAug, dAugS2, dAugF, dBM, dBM0, dChain, dYes, dSl, dPart, dNoPart, wSl, wLt, wLe, wGt, wGe, wI, wI0, wAdd, wSub, wMod, wDiv, wPow, wMul, wEq, wEqB, wNe, wIsN, wIsB, wLen, wInt, wMax2, wMin2, wI2, wIxA, wSet, wGetC, wIp, wTupleOf, wStrI, wIsi, wIn, wInT, wAppend, wPop, wInsert, wLM, wGet, dkey, startD, tru, dty, lq, dRevL, putD, CDiv, CMul, CPow, setc_same, setc_setc, ho6, mf_r, hr6, ca, hq6, i2]
          exact q
        | i + 2, hx, _, _ => simp at hx
      · rintro _ _ ⟨o5, rfl, M5⟩
        refine hB _ _ ⟨_, rfl, ?_⟩
        have e2 : setUp (setUp (push t z v) (2 * d) (t.n : Int)) (2 * d + 1) t.n = gro t d true z v := setUp_hang
        rw [← e2]
        exact M5
  rintro _ cs3 ⟨o5, rfl, M3⟩
  simp [-List.lookup_eq_none_iff, dSeq, dIf, dB, dOp, dVar, dC, dUn, dAsg, dCB, dCons, dNil, dgName, dgSub, dRet, dRetN, dDrop, dNext, dBreak, dCont, dNever, dIfE, dAnd, dOr, dNot, dTru, dAndV, dOrV, dNotV, dTup, dLst, nF, nC, dFld, dSetF, dCall, dMeth, dMake, dPar, dPar3, dgTup, dgCons, dgNil, dAug, dAugS2, dAugF, dBM, dBM0, dChain, dYes, dSl, dPart, dNoPart, wSl, wLt, wLe, wGt, wGe, wI, wI0, wAdd, wSub, wMod, wDiv, wPow, wMul, wEq, wEqB, wNe, wIsN, wIsB, wLen, wInt, wMax2, wMin2, wI2, wIxA, wSet, wGetC, wIp, wTupleOf, wStrI, wIsi, wIn, wInT, wAppend, wPop, wInsert, wLM, wGet, dkey, startD, tru, dty, lq, dRevL, putD, CDiv, CMul, CPow, setc_same, setc_setc]
  refine hq cs3 m2 ?_
  rw [hst]
  exact M3
end LS
namespace LS
open PySem PySem.Spec PyProof.Rows L2 DL
theorem stp_count {t : T} {d e : Nat} {ls : List (Int × Int)} (he : e = t.n / 2) (hd : d ≤ e) (hs : d < e ∨ ls ≠ []) : (stp (t, d, ls)).2.2.length + (e - (stp (t, d, ls)).2.1) + 1 = ls.length + (e - d) ∧ (stp (t, d, ls)).1.n = t.n + 1 ∧ (stp (t, d, ls)).2.1 ≤ e := by
  cases ls with
  | nil =>
    have h : d < e := hs.resolve_right (by simp)
    refine ⟨?_, rfl, ?_⟩
    · show 0 + (e - (d + 1)) + 1 = 0 + (e - d); omega
    · show d + 1 ≤ e; omega
  | cons p r =>
    obtain ⟨v, z⟩ := p
    simp only [stp]
    by_cases c : 2 * d + 1 < t.n ∧ psum t d < v
    · rw [if_pos c]
      have := c.1
      refine ⟨?_, rfl, ?_⟩
      · show (r.length + 1) + (e - (d + 1)) + 1 = (r.length + 1) + (e - d); omega
      · show d + 1 ≤ e; omega
    · rw [if_neg c]
      refine ⟨?_, rfl, hd⟩
      show r.length + (e - d) + 1 = (r.length + 1) + (e - d); omega
theorem Qp_snoc {t : T} {d e : Nat} (h : d ≤ e) : Qp t d (e + 1) = Qp t d e ++ [Qt t e] := by
  unfold Qp
  rw [show e + 1 - d = (e - d) + 1 by omega, List.range_succ, List.map_append]
  simp [show e - d + d = e by omega]
theorem h_Making_join (cl : Str → Addr) : DOk (P_Making_join cl) (w_Making_join cl) 3 := by
  rintro ds cs Φ Ψ ⟨cs0, a, m, ⟨t, d, ls⟩, e, rfl, M, hn, hd, hc, h9, hq⟩
  have hn : t.n = 2 * e := hn
  have hd : d ≤ e := hd
  have hc : 1 < ls.length + (e - d) := hc
  have h9 : t.n < 900 := h9
  have hs1 : d < e ∨ ls ≠ [] := by
    cases ls with
    | nil => left; simp at hc; omega
    | cons p r => right; simp
  obtain ⟨c1, c2, c3⟩ := stp_count (t := t) (e := e) (by omega) hd hs1
  unfold w_Making_join
  refine cut (fun ρ' cs' => ∃ m', ρ' = [some (.cell a), some (.int (2 * (e : Int))), some (.int (2 * (e : Int) + 1))] ∧ MkO cl cs0 cs' a m' (stp (stp (t, d, ls))) e) (fun B hB => ?_) ?_
  · simp [-List.lookup_eq_none_iff, dSeq, dIf, dB, dOp, dVar, dC, dUn, dAsg, dCB, dCons, dNil, dgName, dgSub, dRet, dRetN, dDrop, dNext, dBreak, dCont, dNever, dIfE, dAnd, dOr, dNot, dTru, dAndV, dOrV, dNotV, dTup, dLst, nF, nC, dFld, dSetF, dCall, dMeth, dMake, dPar, dPar3, dgTup, dgCons, dgNil, dAug, dAugS2, dAugF, dBM, dBM0, dChain, dYes, dSl, dPart, dNoPart, wSl, wLt, wLe, wGt, wGe, wI, wI0, wAdd, wSub, wMod, wDiv, wPow, wMul, wEq, wEqB, wNe, wIsN, wIsB, wLen, wInt, wMax2, wMin2, wI2, wIxA, wSet, wGetC, wIp, wTupleOf, wStrI, wIsi, wIn, wInT, wAppend, wPop, wInsert, wLM, wGet, dkey, startD, tru, dty, lq, dRevL, putD, CDiv, CMul, CPow, setc_same, setc_setc, M.o, mf_pl]
    refine ⟨cs0, a, m, (t, d, ls), e, rfl, M, by show e = t.n / 2; omega, hs1, by show t.n < 1000; omega, fun cs1 m1 M1 => ?_⟩
    simp [-List.lookup_eq_none_iff, dSeq, dIf, dB, dOp, dVar, dC, dUn, dAsg, dCB, dCons, dNil, dgName, dgSub, dRet, dRetN, dDrop, dNext, dBreak, dCont, dNever, dIfE, dAnd, dOr, dNot, dTru, dAndV, dOrV, dNotV, dTup, dLst, nF, nC, dFld, dSetF, dCall, dMeth, dMake, dPar, dPar3, dgTup, dgCons, dgNil, dAug, dAugS2, dAugF, dBM, dBM0, dChain, dYes, dSl, dPart, dNoPart, wSl, wLt, wLe, wGt, wGe, wI, wI0, wAdd, wSub, wMod, wDiv, wPow, wMul, wEq, wEqB, wNe, wIsN, wIsB, wLen, wInt, wMax2, wMin2, wI2, wIxA, wSet, wGetC, wIp, wTupleOf, wStrI, wIsi, wIn, wInT, wAppend, wPop, wInsert, wLM, wGet, dkey, startD, tru, dty, lq, dRevL, putD, CDiv, CMul, CPow, setc_same, setc_setc, M1.o, mf_pl]
    generalize hst : stp (t, d, ls) = s1 at M1 c1 c2 c3 hB
    obtain ⟨t1, d1, ls1⟩ := s1
    have c1 : ls1.length + (e - d1) + 1 = ls.length + (e - d) := c1
    have c2 : t1.n = t.n + 1 := c2
    have hs2 : d1 < e ∨ ls1 ≠ [] := by
      cases ls1 with
      | nil => left; simp at c1; omega
      | cons p r => right; simp
    refine ⟨cs0, a, m1, (t1, d1, ls1), e, rfl, M1, by show e = t1.n / 2; omega, hs2, by show t1.n < 1000; omega, fun cs2 m2 M2 => ?_⟩
    refine hB _ _ ⟨m2, ?_, M2⟩
    have e1 : ((t.n : Nat) : Int) = 2 * (e : Int) := by omega
    have e2 : ((t1.n : Nat) : Int) = 2 * (e : Int) + 1 := by omega
    show [some (D.cell a), some (D.int (t.n : Int)), some (D.int (t1.n : Int))] = _
    rw [e1, e2]
  rintro _ cs2 ⟨m2, rfl, M2⟩
  generalize hst : stp (t, d, ls) = s1 at M2 c1 c2 c3 hq
  obtain ⟨t1, d1, ls1⟩ := s1
  have c1 : ls1.length + (e - d1) + 1 = ls.length + (e - d) := c1
  have c2 : t1.n = t.n + 1 := c2
  have c3 : d1 ≤ e := c3
  have hs2 : d1 < e ∨ ls1 ≠ [] := by
    cases ls1 with
    | nil => left; simp at c1; omega
    | cons p r => right; simp
  obtain ⟨_, b2, b3⟩ := stp_count (t := t1) (e := e) (by omega) c3 hs2
  generalize hst2 : stp (t1, d1, ls1) = s2 at M2 b2 b3 hq
  obtain ⟨t2, d2, ls2⟩ := s2
  have b2 : t2.n = t1.n + 1 := b2
  have b3 : d2 ≤ e := b3
  have ho := M2.o
  have hr := M2.hr
  have hp := M2.hp
  have g1 : 2 * e < t2.n := by omega
  have g2 : 2 * e + 1 < t2.n := by omega
  have q1 := M2.hq (2 * e) g1
  have q2 := M2.hq (2 * e + 1) g2
  have a1 : atI ((List.range t2.n).map fun i => D.cell (m2.q i)) (2 * (e : Int)) = some (.cell (m2.q (2 * e))) := cell_at (qa := m2.q) g1
  have a2 : atI ((List.range t2.n).map fun i => D.cell (m2.q i)) (2 * (e : Int) + 1) = some (.cell (m2.q (2 * e + 1))) := cell_at (qa := m2.q) g2
  have Mn := M2.n1
  have q := hq _ m2 (M2.pairs d2 (e + 1) (by omega))
  rw [Qp_snoc b3] at q
  simp [-List.lookup_eq_none_iff, dSeq, dIf, dB, dOp, dVar, dC, dUn, dAsg, dCB, dCons, dNil, dgName, dgSub, dRet, dRetN, dDrop, dNext, dBreak, dCont, dNever, dIfE, dAnd, dOr, dNot, dTru, dAndV, dOrV, dNotV, dTup, dLst, nF, nC, dFld, dSetF, dCall, dMeth, dMake, dPar, dPar3, dgTup, dgCons, dgNil, dAug, dAugS2, dAugF, dBM, dBM0, dChain, dYes, dSl, dPart, dNoPart, wSl, wLt, wLe, wGt, wGe, wI, wI0, wAdd, wSub, wMod, wDiv, wPow, wMul, wEq, wEqB, wNe, wIsN, wIsB, wLen, wInt, wMax2, wMin2, wI2, wIxA, wSet, wGetC, wIp, wTupleOf, wStrI, wIsi, wIn, wInT, wAppend, wPop, wInsert, wLM, wGet, dkey, startD, tru, dty, lq, dRevL, putD, CDiv, CMul, CPow, setc_same, setc_setc, ho, mf_r, mf_p, hr, hp, a1, a2, q1, q2, at3_1]
  exact ⟨by unfold Qp; simp; omega, q⟩
end LS
namespace LS
open PySem PySem.Spec PyProof.Rows L2 DL
theorem Ext.refl (cs : Cs) : Ext cs cs := fun _ _ h => h
set_option maxHeartbeats 1000000 in
theorem h_made_row (cl : Str → Addr) : DOk (P_made_row cl) (w_made_row cl) 6 := by
  rintro ds cs Φ Ψ ⟨l, rfl, l2, hq⟩
  unfold w_made_row
  cases hf : fault (-1) 0 l with
  | some p =>
    obtain ⟨C, v⟩ := p
    refine cut (fun ρ' cs' => False) (fun B hB => ?_) (fun _ _ h => h.elim)
    simp [-List.lookup_eq_none_iff, dSeq, dIf, dB, dOp, dVar, dC, dUn, dAsg, dCB, dCons, dNil, dgName, dgSub, dRet, dRetN, dDrop, dNext, dBreak, dCont, dNever, dIfE, dAnd, dOr, dNot, dTru, dAndV, dOrV, dNotV, dTup, dLst, nF, nC, dFld, dSetF, dCall, dMeth, dMake, dPar, dPar3, dgTup, dgCons, dgNil, dAug, dAugS2, dAugF, dBM, dBM0, dChain, dYes, dSl, dPart, dNoPart, wSl, wLt, wLe, wGt, wGe, wI, wI0, wAdd, wSub, wMod, wDiv, wPow, wMul, wEq, wEqB, wNe, wIsN, wIsB, wLen, wInt, wMax2, wMin2, wI2, wIxA, wSet, wGetC, wIp, wTupleOf, wStrI, wIsi, wIn, wInT, wAppend, wPop, wInsert, wLM, wGet, dkey, startD, tru, dty, lq, dRevL, putD, CDiv, CMul, CPow, setc_same, setc_setc]
    exact ⟨l, rfl, by omega, (fun h => by rw [hf] at h; cases h), fun C' v' h => (hq cs (Ext.refl cs)).2 C' v' h⟩
  | none =>
    have c := (fault_clo (by omega)).mp hf
    refine cut (fun ρ' cs' => ρ' = [some (eC l), none, none, none, none, none] ∧ cs = cs') (fun B hB => ?_) ?_
    · simp [-List.lookup_eq_none_iff, dSeq, dIf, dB, dOp, dVar, dC, dUn, dAsg, dCB, dCons, dNil, dgName, dgSub, dRet, dRetN, dDrop, dNext, dBreak, dCont, dNever, dIfE, dAnd, dOr, dNot, dTru, dAndV, dOrV, dNotV, dTup, dLst, nF, nC, dFld, dSetF, dCall, dMeth, dMake, dPar, dPar3, dgTup, dgCons, dgNil, dAug, dAugS2, dAugF, dBM, dBM0, dChain, dYes, dSl, dPart, dNoPart, wSl, wLt, wLe, wGt, wGe, wI, wI0, wAdd, wSub, wMod, wDiv, wPow, wMul, wEq, wEqB, wNe, wIsN, wIsB, wLen, wInt, wMax2, wMin2, wI2, wIxA, wSet, wGetC, wIp, wTupleOf, wStrI, wIsi, wIn, wInT, wAppend, wPop, wInsert, wLM, wGet, dkey, startD, tru, dty, lq, dRevL, putD, CDiv, CMul, CPow, setc_same, setc_setc]
      exact ⟨l, rfl, by omega, fun _ => hB _ _ ⟨rfl, rfl⟩, fun C v h => by rw [hf] at h; cases h⟩
    rintro _ _ ⟨rfl, rfl⟩
    refine cut (fun ρ' cs' => ∃ a m ls, ρ' = [some (eC l), some (.cell a), none, none, none, none] ∧ SortedOf l ls ∧ MkO cl cs cs' a m (T0, 0, ls) 0) (fun B hB => ?_) ?_
    · simp [-List.lookup_eq_none_iff, dSeq, dIf, dB, dOp, dVar, dC, dUn, dAsg, dCB, dCons, dNil, dgName, dgSub, dRet, dRetN, dDrop, dNext, dBreak, dCont, dNever, dIfE, dAnd, dOr, dNot, dTru, dAndV, dOrV, dNotV, dTup, dLst, nF, nC, dFld, dSetF, dCall, dMeth, dMake, dPar, dPar3, dgTup, dgCons, dgNil, dAug, dAugS2, dAugF, dBM, dBM0, dChain, dYes, dSl, dPart, dNoPart, wSl, wLt, wLe, wGt, wGe, wI, wI0, wAdd, wSub, wMod, wDiv, wPow, wMul, wEq, wEqB, wNe, wIsN, wIsB, wLen, wInt, wMax2, wMin2, wI2, wIxA, wSet, wGetC, wIp, wTupleOf, wStrI, wIsi, wIn, wInT, wAppend, wPop, wInsert, wLM, wGet, dkey, startD, tru, dty, lq, dRevL, putD, CDiv, CMul, CPow, setc_same, setc_setc, eC, wSortP, dLc_eq, diSeq]
      refine lc_gen (fun i => (l.take i).map fun q => D.tup [.int q.2, .int q.1]) trivial (by simp; omega) rfl (fun i x hx B2 hB2 => ?_) ?_
      · rw [List.getElem?_map] at hx
        cases e : l[i]? with
        | none => rw [e] at hx; cases hx
        | some q =>
          rw [e] at hx
          cases hx
          rw [List.take_add_one, e] at hB2
          simp [-List.lookup_eq_none_iff, dSeq, dIf, dB, dOp, dVar, dC, dUn, dAsg, dCB, dCons, dNil, dgName, dgSub, dRet, dRetN, dDrop, dNext, dBreak, dCont, dNever, dIfE, dAnd, dOr, dNot, dTru, dAndV, dOrV, dNotV, dTup, dLst, nF, nC, dFld, dSetF, dCall, dMeth, dMake, dPar, dPar3, dgTup, dgCons, dgNil, dAug, dAugS2, dAugF, dBM, dBM0, dChain, dYes, dSl, dPart, dNoPart, wSl, wLt, wLe, wGt, wGe, wI, wI0, wAdd, wSub, wMod, wDiv, wPow, wMul, wEq, wEqB, wNe, wIsN, wIsB, wLen, wInt, wMax2, wMin2, wI2, wIxA, wSet, wGetC, wIp, wTupleOf, wStrI, wIsi, wIn, wInT, wAppend, wPop, wInsert, wLM, wGet, dkey, startD, tru, dty, lq, dRevL, putD, CDiv, CMul, CPow, setc_same, setc_setc, wipeD]
          simpa using hB2
      · simp [-List.lookup_eq_none_iff, dSeq, dIf, dB, dOp, dVar, dC, dUn, dAsg, dCB, dCons, dNil, dgName, dgSub, dRet, dRetN, dDrop, dNext, dBreak, dCont, dNever, dIfE, dAnd, dOr, dNot, dTru, dAndV, dOrV, dNotV, dTup, dLst, nF, nC, dFld, dSetF, dCall, dMeth, dMake, dPar, dPar3, dgTup, dgCons, dgNil, dAug, dAugS2, dAugF, dBM, dBM0, dChain, dYes, dSl, dPart, dNoPart, wSl, wLt, wLe, wGt, wGe, wI, wI0, wAdd, wSub, wMod, wDiv, wPow, wMul, wEq, wEqB, wNe, wIsN, wIsB, wLen, wInt, wMax2, wMin2, wI2, wIxA, wSet, wGetC, wIp, wTupleOf, wStrI, wIsi, wIn, wInT, wAppend, wPop, wInsert, wLM, wGet, dkey, startD, tru, dty, lq, dRevL, putD, CDiv, CMul, CPow, setc_same, setc_setc]
        refine ⟨by omega, (l.map sw ++ [(1, 256)]).map pr, ?_, ?_, ?_⟩
        · rw [tup_pr, List.map_append, List.map_map]; rfl
        · intro ns hns
          obtain ⟨q, hq', rfl⟩ := List.mem_map.mp hns
          refine ⟨rfl, ?_⟩
          rcases List.mem_append.mp hq' with hq' | hq'
          · obtain ⟨r, hr, rfl⟩ := List.mem_map.mp hq'
            have := c.ok r hr
            exact bd2 (by simp only [sw]; omega) (by simp only [sw]; omega) (by simp only [sw]; omega) (by simp only [sw]; omega)
          · rw [List.mem_singleton] at hq'; subst hq'
            exact bd2 (by decide) (by decide) (by decide) (by decide)
        · intro nss hp hw
          obtain ⟨ls, rfl, pm⟩ := perm_pr hp
          rw [tup_pr]
          have so : SortedOf l ls := ⟨pm, by
            rw [List.pairwise_map] at hw
            exact hw.imp fun {p q} h => by
              rw [show pr p = [p.1, p.2] from rfl, show pr q = [q.1, q.2] from rfl, code2, code2] at h
              exact h⟩
          have len : ls.length = l.length + 1 := by rw [pm.length_eq]; simp
          intro la hla a ha
          have al : a ≠ la := fun e => by rw [e, setc_same] at ha; cases ha
          have fa : cs a = none := by rw [setc_ne al] at ha; exact ha
          refine ⟨a, la, ls, cs, rfl, setc_same, by rw [setc_ne al.symm, setc_same]; rfl, al, by omega, fun b x hb => ?_, fa, hla, fun cs' m M => ?_⟩
          · rw [setc_ne (ne_of_cs hb fa), setc_ne (ne_of_cs hb hla)]; exact hb
          · exact ⟨rfl, hB _ _ ⟨a, m, ls, rfl, so, M⟩⟩
    rintro _ cs1 ⟨a, m, ls0, rfl, so, M0⟩
    have len : ls0.length = l.length + 1 := by rw [so.1.length_eq]; simp
    have mk0 := Mk_init c so.1 so.2
    refine cut (fun ρ' cs' => ∃ m t d ls, ρ' = [some (eC l), some (.cell a), none, none, none, none] ∧ itr (2 * l.length) (T0, 0, ls0) = (t, d, ls) ∧ MkO cl cs cs' a m (t, d, ls) l.length) (fun B hB => ?_) ?_
    · refine ⟨fun w ρ' cs' => ∃ m t d ls e, ρ' = [some (eC l), some (.cell a), none, none, none, none] ∧ itr (2 * e) (T0, 0, ls0) = (t, d, ls) ∧ MkO cl cs cs' a m (t, d, ls) e ∧ e ≤ l.length ∧ w = l.length - e, ⟨_, m, T0, 0, ls0, 0, rfl, rfl, M0, by omega, rfl⟩, ?_⟩
      rintro w _ cs2 ⟨m2, t, d, ls, e, rfl, hi, M, he, rfl⟩
      obtain ⟨t', d', ls', e1, mk, n'⟩ := itr_Mk mk0 (2 * e) (by omega)
      rw [hi] at e1
      cases e1
      have num := mk.num
      have dn := mk.dn
      have cnt : (ls.length : Int) + ((e - d : Nat) : Int) = (l.length : Int) + 1 - e := by omega
      simp [-List.lookup_eq_none_iff, dSeq, dIf, dB, dOp, dVar, dC, dUn, dAsg, dCB, dCons, dNil, dgName, dgSub, dRet, dRetN, dDrop, dNext, dBreak, dCont, dNever, dIfE, dAnd, dOr, dNot, dTru, dAndV, dOrV, dNotV, dTup, dLst, nF, nC, dFld, dSetF, dCall, dMeth, dMake, dPar, dPar3, dgTup, dgCons, dgNil, dAug, dAugS2, dAugF, dBM, dBM0, dChain, dYes, dSl, dPart, dNoPart, wSl, wLt, wLe, wGt, wGe, wI, wI0, wAdd, wSub, wMod, wDiv, wPow, wMul, wEq, wEqB, wNe, wIsN, wIsB, wLen, wInt, wMax2, wMin2, wI2, wIxA, wSet, wGetC, wIp, wTupleOf, wStrI, wIsi, wIn, wInT, wAppend, wPop, wInsert, wLM, wGet, dkey, startD, tru, dty, lq, dRevL, putD, CDiv, CMul, CPow, setc_same, setc_setc, M.o, mf_m]
      refine ⟨cs, a, m2, (t, d, ls), e, rfl, M, ?_⟩
      by_cases h : e < l.length
      · have h1 : (1 : Int) < (ls.length : Int) + ((e - d : Nat) : Int) := by omega
        simp [-List.lookup_eq_none_iff, dSeq, dIf, dB, dOp, dVar, dC, dUn, dAsg, dCB, dCons, dNil, dgName, dgSub, dRet, dRetN, dDrop, dNext, dBreak, dCont, dNever, dIfE, dAnd, dOr, dNot, dTru, dAndV, dOrV, dNotV, dTup, dLst, nF, nC, dFld, dSetF, dCall, dMeth, dMake, dPar, dPar3, dgTup, dgCons, dgNil, dAug, dAugS2, dAugF, dBM, dBM0, dChain, dYes, dSl, dPart, dNoPart, wSl, wLt, wLe, wGt, wGe, wI, wI0, wAdd, wSub, wMod, wDiv, wPow, wMul, wEq, wEqB, wNe, wIsN, wIsB, wLen, wInt, wMax2, wMin2, wI2, wIxA, wSet, wGetC, wIp, wTupleOf, wStrI, wIsi, wIn, wInT, wAppend, wPop, wInsert, wLM, wGet, dkey, startD, tru, dty, lq, dRevL, putD, CDiv, CMul, CPow, setc_same, setc_setc, h1, M.o, mf_j]
        refine ⟨cs, a, m2, (t, d, ls), e, rfl, M, n', by show d ≤ e; omega, by show 1 < ls.length + (e - d); omega, by show t.n < 900; omega, fun cs' m' M' => ?_⟩
        generalize hs : stp (stp (t, d, ls)) = s2 at M'
        obtain ⟨t2, d2, ls2⟩ := s2
        refine ⟨l.length - (e + 1), by omega, m', t2, d2, ls2, e + 1, ?_, M', by omega, rfl⟩
        show stp (stp (itr (2 * e) (T0, 0, ls0))) = _
        rw [hi]; exact hs
      · have h1 : ¬ (1 : Int) < (ls.length : Int) + ((e - d : Nat) : Int) := by omega
        have ee : e = l.length := by omega
        subst ee
        simp [-List.lookup_eq_none_iff, dSeq, dIf, dB, dOp, dVar, dC, dUn, dAsg, dCB, dCons, dNil, dgName, dgSub, dRet, dRetN, dDrop, dNext, dBreak, dCont, dNever, dIfE, dAnd, dOr, dNot, dTru, dAndV, dOrV, dNotV, dTup, dLst, nF, nC, dFld, dSetF, dCall, dMeth, dMake, dPar, dPar3, dgTup, dgCons, dgNil, dAug, dAugS2, dAugF, dBM, dBM0, dChain, dYes, dSl, dPart, dNoPart, wSl, wLt, wLe, wGt, wGe, wI, wI0, wAdd, wSub, wMod, wDiv, wPow, wMul, wEq, wEqB, wNe, wIsN, wIsB, wLen, wInt, wMax2, wMin2, wI2, wIxA, wSet, wGetC, wIp, wTupleOf, wStrI, wIsi, wIn, wInT, wAppend, wPop, wInsert, wLM, wGet, dkey, startD, tru, dty, lq, dRevL, putD, CDiv, CMul, CPow, setc_same, setc_setc, h1]
        exact hB _ _ ⟨m2, t, d, ls, rfl, hi, M⟩
    rintro _ cs2 ⟨m2, t, d, ls, rfl, hi, M⟩
    obtain ⟨t', d', ls', e1, mk, n'⟩ := itr_Mk mk0 (2 * l.length) (by omega)
    rw [hi] at e1
    cases e1
    have dn := mk.dn
    obtain ⟨t3, d3, ls3, e3, mk3, n3⟩ := itr_Mk mk0 (2 * l.length + 1) (by omega)
    have hT : mkT ls0 = t3 := by
      unfold mkT
      rw [len, show 2 * (l.length + 1) - 1 = 2 * l.length + 1 by omega, e3]
    have hst : stp (t, d, ls) = (t3, d3, ls3) := by
      rw [← hi]; exact e3
    refine cut (fun ρ' cs' => ∃ m3, ρ' = [some (eC l), some (.cell a), none, none, none, none] ∧ MkO cl cs cs' a m3 (t3, d3, ls3) l.length) (fun B hB => ?_) ?_
    · simp [-List.lookup_eq_none_iff, dSeq, dIf, dB, dOp, dVar, dC, dUn, dAsg, dCB, dCons, dNil, dgName, dgSub, dRet, dRetN, dDrop, dNext, dBreak, dCont, dNever, dIfE, dAnd, dOr, dNot, dTru, dAndV, dOrV, dNotV, dTup, dLst, nF, nC, dFld, dSetF, dCall, dMeth, dMake, dPar, dPar3, dgTup, dgCons, dgNil, dAug, dAugS2, dAugF, dBM, dBM0, dChain, dYes, dSl, dPart, dNoPart, wSl, wLt, wLe, wGt, wGe, wI, wI0, wAdd, wSub, wMod, wDiv, wPow, wMul, wEq, wEqB, wNe, wIsN, wIsB, wLen, wInt, wMax2, wMin2, wI2, wIxA, wSet, wGetC, wIp, wTupleOf, wStrI, wIsi, wIn, wInT, wAppend, wPop, wInsert, wLM, wGet, dkey, startD, tru, dty, lq, dRevL, putD, CDiv, CMul, CPow, setc_same, setc_setc, M.o, mf_pl]
      refine ⟨cs, a, m2, (t, d, ls), l.length, rfl, M, by show l.length = t.n / 2; omega, ?_, by show t.n < 1000; omega, fun cs3 m3 M3 => ?_⟩
      · rcases mk_going mk (by omega) with h | h
        · left; show d < l.length; omega
        · right; exact h
      · rw [hst] at M3
        exact hB _ _ ⟨m3, rfl, M3⟩
    rintro _ cs3 ⟨m3, rfl, M3⟩
    have fin := ((hq cs3 M3.ext).1 hf ls0 so (by rw [hT]; exact mk3.right (by omega) (by omega)) (by rw [hT]; omega))
    rw [hT] at fin
    have ho := M3.o
    have hr := M3.hr
    simp [-List.lookup_eq_none_iff, dSeq, dIf, dB, dOp, dVar, dC, dUn, dAsg, dCB, dCons, dNil, dgName, dgSub, dRet, dRetN, dDrop, dNext, dBreak, dCont, dNever, dIfE, dAnd, dOr, dNot, dTru, dAndV, dOrV, dNotV, dTup, dLst, nF, nC, dFld, dSetF, dCall, dMeth, dMake, dPar, dPar3, dgTup, dgCons, dgNil, dAug, dAugS2, dAugF, dBM, dBM0, dChain, dYes, dSl, dPart, dNoPart, wSl, wLt, wLe, wGt, wGe, wI, wI0, wAdd, wSub, wMod, wDiv, wPow, wMul, wEq, wEqB, wNe, wIsN, wIsB, wLen, wInt, wMax2, wMin2, wI2, wIxA, wSet, wGetC, wIp, wTupleOf, wStrI, wIsi, wIn, wInT, wAppend, wPop, wInsert, wLM, wGet, dkey, startD, tru, dty, lq, dRevL, putD, CDiv, CMul, CPow, setc_same, setc_setc, ho, mf_r, hr, dLc_eq, diSeq]
    refine lc_gen (fun i => (List.range i).map (eJ t3)) hr (by simp; omega) rfl (fun i x hx B2 hB2 => ?_) ?_
    · rw [List.getElem?_map] at hx
      cases e : (List.range t3.n)[i]? with
      | none => rw [e] at hx; cases hx
      | some j =>
        rw [e] at hx
        cases hx
        have hi := (List.getElem?_eq_some_iff.mp e).1
        have hi : i < t3.n := by simpa using hi
        rw [List.getElem?_range hi] at e
        cases e
        have hq3 := M3.hq i hi
        rw [range_map_succ] at hB2
        simp [-List.lookup_eq_none_iff, dSeq, dIf, dB, dOp, dVar, dC, dUn, dAsg, dCB, dCons, dNil, dgName, dgSub, dRet, dRetN, dDrop, dNext, dBreak, dCont, dNever, dIfE, dAnd, dOr, dNot, dTru, dAndV, dOrV, dNotV, dTup, dLst, nF, nC, dFld, dSetF, dCall, dMeth, dMake, dPar, dPar3, dgTup, dgCons, dgNil, dAug, dAugS2, dAugF, dBM, dBM0, dChain, dYes, dSl, dPart, dNoPart, wSl, wLt, wLe, wGt, wGe, wI, wI0, wAdd, wSub, wMod, wDiv, wPow, wMul, wEq, wEqB, wNe, wIsN, wIsB, wLen, wInt, wMax2, wMin2, wI2, wIxA, wSet, wGetC, wIp, wTupleOf, wStrI, wIsi, wIn, wInT, wAppend, wPop, wInsert, wLM, wGet, dkey, startD, tru, dty, lq, dRevL, putD, CDiv, CMul, CPow, setc_same, setc_setc, wipeD, hq3]
        exact hB2
    · rw [show ((List.range t3.n).map fun i => D.cell (m3.q i)).length = t3.n by simp]
      simp [-List.lookup_eq_none_iff, dSeq, dIf, dB, dOp, dVar, dC, dUn, dAsg, dCB, dCons, dNil, dgName, dgSub, dRet, dRetN, dDrop, dNext, dBreak, dCont, dNever, dIfE, dAnd, dOr, dNot, dTru, dAndV, dOrV, dNotV, dTup, dLst, nF, nC, dFld, dSetF, dCall, dMeth, dMake, dPar, dPar3, dgTup, dgCons, dgNil, dAug, dAugS2, dAugF, dBM, dBM0, dChain, dYes, dSl, dPart, dNoPart, wSl, wLt, wLe, wGt, wGe, wI, wI0, wAdd, wSub, wMod, wDiv, wPow, wMul, wEq, wEqB, wNe, wIsN, wIsB, wLen, wInt, wMax2, wMin2, wI2, wIxA, wSet, wGetC, wIp, wTupleOf, wStrI, wIsi, wIn, wInT, wAppend, wPop, wInsert, wLM, wGet, dkey, startD, tru, dty, lq, dRevL, putD, CDiv, CMul, CPow, setc_same, setc_setc]
      exact fin
end LS
namespace LS
open PySem PySem.Spec PyProof.Rows L2 DL
theorem h_want_letter (cl : Str → Addr) : DOk (P_want_letter cl) (w_want_letter cl) 1 := by
  rintro ds cs Φ Ψ ⟨z, rfl, h1, h2⟩
  by_cases h0 : 0 ≤ z
  · by_cases h3 : z < 256
    · simp [-List.lookup_eq_none_iff, dSeq, dIf, dB, dOp, dVar, dC, dUn, dAsg, dCB, dCons, dNil, dgName, dgSub, dRet, dRetN, dDrop, dNext, dBreak, dCont, dNever, dIfE, dAnd, dOr, dNot, dTru, dAndV, dOrV, dNotV, dTup, dLst, nF, nC, dFld, dSetF, dCall, dMeth, dMake, dPar, dPar3, dgTup, dgCons, dgNil, dAug, dAugS2, dAugF, dBM, dBM0, dChain, dYes, dSl, dPart, dNoPart, wSl, wLt, wLe, wGt, wGe, wI, wI0, wAdd, wSub, wMod, wDiv, wPow, wMul, wEq, wEqB, wNe, wIsN, wIsB, wLen, wInt, wMax2, wMin2, wI2, wIxA, wSet, wGetC, wIp, wTupleOf, wStrI, wIsi, wIn, wInT, wAppend, wPop, wInsert, wLM, wGet, dkey, startD, tru, dty, lq, dRevL, putD, CDiv, CMul, CPow, setc_same, setc_setc, w_want_letter, h0, h3]
      exact h1 h0 h3
    · simp [-List.lookup_eq_none_iff, dSeq, dIf, dB, dOp, dVar, dC, dUn, dAsg, dCB, dCons, dNil, dgName, dgSub, dRet, dRetN, dDrop, dNext, dBreak, dCont, dNever, dIfE, dAnd, dOr, dNot, dTru, dAndV, dOrV, dNotV, dTup, dLst, nF, nC, dFld, dSetF, dCall, dMeth, dMake, dPar, dPar3, dgTup, dgCons, dgNil, dAug, dAugS2, dAugF, dBM, dBM0, dChain, dYes, dSl, dPart, dNoPart, wSl, wLt, wLe, wGt, wGe, wI, wI0, wAdd, wSub, wMod, wDiv, wPow, wMul, wEq, wEqB, wNe, wIsN, wIsB, wLen, wInt, wMax2, wMin2, wI2, wIxA, wSet, wGetC, wIp, wTupleOf, wStrI, wIsi, wIn, wInT, wAppend, wPop, wInsert, wLM, wGet, dkey, startD, tru, dty, lq, dRevL, putD, CDiv, CMul, CPow, setc_same, setc_setc, w_want_letter, h0, h3, dRaise]
      exact h2 fun h => h3 h.2
  · simp [-List.lookup_eq_none_iff, dSeq, dIf, dB, dOp, dVar, dC, dUn, dAsg, dCB, dCons, dNil, dgName, dgSub, dRet, dRetN, dDrop, dNext, dBreak, dCont, dNever, dIfE, dAnd, dOr, dNot, dTru, dAndV, dOrV, dNotV, dTup, dLst, nF, nC, dFld, dSetF, dCall, dMeth, dMake, dPar, dPar3, dgTup, dgCons, dgNil, dAug, dAugS2, dAugF, dBM, dBM0, dChain, dYes, dSl, dPart, dNoPart, wSl, wLt, wLe, wGt, wGe, wI, wI0, wAdd, wSub, wMod, wDiv, wPow, wMul, wEq, wEqB, wNe, wIsN, wIsB, wLen, wInt, wMax2, wMin2, wI2, wIxA, wSet, wGetC, wIp, wTupleOf, wStrI, wIsi, wIn, wInT, wAppend, wPop, wInsert, wLM, wGet, dkey, startD, tru, dty, lq, dRevL, putD, CDiv, CMul, CPow, setc_same, setc_setc, w_want_letter, h0, dRaise]
    exact h2 fun h => h0 h.1
theorem fault_drop {b : Int} {i : Nat} {z v : Int} {r : List (Int × Int)} : fault b i ((z, v) :: r) = if ¬ (0 ≤ z ∧ z < 256) then some (("BadLetter" : Str), z) else if z ≤ b ∨ ¬ (1 ≤ v ∧ v ≤ 1000000) then some (("BadCount" : Str), (i : Int)) else fault z (i + 1) r := rfl
theorem h_want_counts (cl : Str → Addr) : DOk (P_want_counts cl) (w_want_counts cl) 5 := by
  rintro ds cs Φ Ψ ⟨l, rfl, n1, hq, hx⟩
  unfold w_want_counts
  refine cut (fun ρ' cs' => ρ' = [some (eC l), some (.int (-1)), none, none, none] ∧ cs = cs') (fun B hB => ?_) ?_
  · simp [-List.lookup_eq_none_iff, dSeq, dIf, dB, dOp, dVar, dC, dUn, dAsg, dCB, dCons, dNil, dgName, dgSub, dRet, dRetN, dDrop, dNext, dBreak, dCont, dNever, dIfE, dAnd, dOr, dNot, dTru, dAndV, dOrV, dNotV, dTup, dLst, nF, nC, dFld, dSetF, dCall, dMeth, dMake, dPar, dPar3, dgTup, dgCons, dgNil, dAug, dAugS2, dAugF, dBM, dBM0, dChain, dYes, dSl, dPart, dNoPart, wSl, wLt, wLe, wGt, wGe, wI, wI0, wAdd, wSub, wMod, wDiv, wPow, wMul, wEq, wEqB, wNe, wIsN, wIsB, wLen, wInt, wMax2, wMin2, wI2, wIxA, wSet, wGetC, wIp, wTupleOf, wStrI, wIsi, wIn, wInT, wAppend, wPop, wInsert, wLM, wGet, dkey, startD, tru, dty, lq, dRevL, putD, CDiv, CMul, CPow, setc_same, setc_setc]
    exact hB _ _ ⟨rfl, rfl⟩
  rintro _ _ ⟨rfl, rfl⟩
  rw [dFor_eq]
  simp [-List.lookup_eq_none_iff, dSeq, dIf, dB, dOp, dVar, dC, dUn, dAsg, dCB, dCons, dNil, dgName, dgSub, dRet, dRetN, dDrop, dNext, dBreak, dCont, dNever, dIfE, dAnd, dOr, dNot, dTru, dAndV, dOrV, dNotV, dTup, dLst, nF, nC, dFld, dSetF, dCall, dMeth, dMake, dPar, dPar3, dgTup, dgCons, dgNil, dAug, dAugS2, dAugF, dBM, dBM0, dChain, dYes, dSl, dPart, dNoPart, wSl, wLt, wLe, wGt, wGe, wI, wI0, wAdd, wSub, wMod, wDiv, wPow, wMul, wEq, wEqB, wNe, wIsN, wIsB, wLen, wInt, wMax2, wMin2, wI2, wIxA, wSet, wGetC, wIp, wTupleOf, wStrI, wIsi, wIn, wInT, wAppend, wPop, wInsert, wLM, wGet, dkey, startD, tru, dty, lq, dRevL, putD, CDiv, CMul, CPow, setc_same, setc_setc, diEnum, eC]
  refine for_gen (fun i ρ' cs' => ∃ b o2 o3 o4, ρ' = [some (eC l), some (.int b), o2, o3, o4] ∧ cs' = cs ∧ fault (-1) 0 l = fault b i (l.drop i) ∧ i ≤ l.length) ⟨-1, none, none, none, rfl, rfl, rfl, by omega⟩ (fun _ _ _ _ => trivial) ?_ ?_
  · rintro i _ _ x ⟨b, o2, o3, o4, rfl, rfl, hf, hi'⟩ hx' C hC
    obtain ⟨y, hy, rfl⟩ := enumD_get hx'
    rw [List.getElem?_map] at hy
    cases e : l[i]? with
    | none => rw [e] at hy; cases hy
    | some p =>
      rw [e] at hy
      cases hy
      obtain ⟨z, v⟩ := p
      have hi := (List.getElem?_eq_some_iff.mp e).1
      have ed : l.drop i = (z, v) :: l.drop (i + 1) := by
        rw [List.drop_eq_getElem_cons hi]
        congr 1
        have := List.getElem?_eq_getElem hi
        rw [e] at this
        exact (Option.some.inj this).symm
      rw [ed, fault_drop] at hf
      simp [-List.lookup_eq_none_iff, dSeq, dIf, dB, dOp, dVar, dC, dUn, dAsg, dCB, dCons, dNil, dgName, dgSub, dRet, dRetN, dDrop, dNext, dBreak, dCont, dNever, dIfE, dAnd, dOr, dNot, dTru, dAndV, dOrV, dNotV, dTup, dLst, nF, nC, dFld, dSetF, dCall, dMeth, dMake, dPar, dPar3, dgTup, dgCons, dgNil, dAug, dAugS2, dAugF, dBM, dBM0, dChain, dYes, dSl, dPart, dNoPart, wSl, wLt, wLe, wGt, wGe, wI, wI0, wAdd, wSub, wMod, wDiv, wPow, wMul, wEq, wEqB, wNe, wIsN, wIsB, wLen, wInt, wMax2, wMin2, wI2, wIxA, wSet, wGetC, wIp, wTupleOf, wStrI, wIsi, wIn, wInT, wAppend, wPop, wInsert, wLM, wGet, dkey, startD, tru, dty, lq, dRevL, putD, CDiv, CMul, CPow, setc_same, setc_setc]
      refine ⟨z, rfl, fun z0 z1 => ?_, fun hn => ?_⟩
      · rw [if_neg (fun h => h ⟨z0, z1⟩)] at hf
        by_cases h2 : z ≤ b
        · rw [if_pos (.inl h2)] at hf
          simp [-List.lookup_eq_none_iff, dSeq, dIf, dB, dOp, dVar, dC, dUn, dAsg, dCB, dCons, dNil, dgName, dgSub, dRet, dRetN, dDrop, dNext, dBreak, dCont, dNever, dIfE, dAnd, dOr, dNot, dTru, dAndV, dOrV, dNotV, dTup, dLst, nF, nC, dFld, dSetF, dCall, dMeth, dMake, dPar, dPar3, dgTup, dgCons, dgNil, dAug, dAugS2, dAugF, dBM, dBM0, dChain, dYes, dSl, dPart, dNoPart, wSl, wLt, wLe, wGt, wGe, wI, wI0, wAdd, wSub, wMod, wDiv, wPow, wMul, wEq, wEqB, wNe, wIsN, wIsB, wLen, wInt, wMax2, wMin2, wI2, wIxA, wSet, wGetC, wIp, wTupleOf, wStrI, wIsi, wIn, wInT, wAppend, wPop, wInsert, wLM, wGet, dkey, startD, tru, dty, lq, dRevL, putD, CDiv, CMul, CPow, setc_same, setc_setc, h2, dRaise]
          exact hx _ _ hf
        · by_cases h3 : 1 ≤ v
          · by_cases h4 : v ≤ 1000000
            · rw [if_neg (by omega)] at hf
              have h5 : ¬ 1000000 < v := by omega
              simp [-List.lookup_eq_none_iff, dSeq, dIf, dB, dOp, dVar, dC, dUn, dAsg, dCB, dCons, dNil, dgName, dgSub, dRet, dRetN, dDrop, dNext, dBreak, dCont, dNever, dIfE, dAnd, dOr, dNot, dTru, dAndV, dOrV, dNotV, dTup, dLst, nF, nC, dFld, dSetF, dCall, dMeth, dMake, dPar, dPar3, dgTup, dgCons, dgNil, dAug, dAugS2, dAugF, dBM, dBM0, dChain, dYes, dSl, dPart, dNoPart, wSl, wLt, wLe, wGt, wGe, wI, wI0, wAdd, wSub, wMod, wDiv, wPow, wMul, wEq, wEqB, wNe, wIsN, wIsB, wLen, wInt, wMax2, wMin2, wI2, wIxA, wSet, wGetC, wIp, wTupleOf, wStrI, wIsi, wIn, wInT, wAppend, wPop, wInsert, wLM, wGet, dkey, startD, tru, dty, lq, dRevL, putD, CDiv, CMul, CPow, setc_same, setc_setc, h2, h3, h4, h5]
              exact hC _ _ ⟨z, _, _, _, rfl, rfl, hf, by omega⟩
            · rw [if_pos (.inr (by omega))] at hf
              have h5 : 1000000 < v := by omega
              simp [-List.lookup_eq_none_iff, dSeq, dIf, dB, dOp, dVar, dC, dUn, dAsg, dCB, dCons, dNil, dgName, dgSub, dRet, dRetN, dDrop, dNext, dBreak, dCont, dNever, dIfE, dAnd, dOr, dNot, dTru, dAndV, dOrV, dNotV, dTup, dLst, nF, nC, dFld, dSetF, dCall, dMeth, dMake, dPar, dPar3, dgTup, dgCons, dgNil, dAug, dAugS2, dAugF, dBM, dBM0, dChain, dYes, dSl, dPart, dNoPart, wSl, wLt, wLe, wGt, wGe, wI, wI0, wAdd, wSub, wMod, wDiv, wPow, wMul, wEq, wEqB, wNe, wIsN, wIsB, wLen, wInt, wMax2, wMin2, wI2, wIxA, wSet, wGetC, wIp, wTupleOf, wStrI, wIsi, wIn, wInT, wAppend, wPop, wInsert, wLM, wGet, dkey, startD, tru, dty, lq, dRevL, putD, CDiv, CMul, CPow, setc_same, setc_setc, h2, h3, h4, h5, dRaise]
              exact hx _ _ hf
          · rw [if_pos (.inr (by omega))] at hf
            simp [-List.lookup_eq_none_iff, dSeq, dIf, dB, dOp, dVar, dC, dUn, dAsg, dCB, dCons, dNil, dgName, dgSub, dRet, dRetN, dDrop, dNext, dBreak, dCont, dNever, dIfE, dAnd, dOr, dNot, dTru, dAndV, dOrV, dNotV, dTup, dLst, nF, nC, dFld, dSetF, dCall, dMeth, dMake, dPar, dPar3, dgTup, dgCons, dgNil, dAug, dAugS2, dAugF, dBM, dBM0, dChain, dYes, dSl, dPart, dNoPart, wSl, wLt, wLe, wGt, wGe, wI, wI0, wAdd, wSub, wMod, wDiv, wPow, wMul, wEq, wEqB, wNe, wIsN, wIsB, wLen, wInt, wMax2, wMin2, wI2, wIxA, wSet, wGetC, wIp, wTupleOf, wStrI, wIsi, wIn, wInT, wAppend, wPop, wInsert, wLM, wGet, dkey, startD, tru, dty, lq, dRevL, putD, CDiv, CMul, CPow, setc_same, setc_setc, h2, h3, dRaise]
            exact hx _ _ hf
      · rw [if_pos hn] at hf
        exact hx _ _ hf
  · rintro _ _ ⟨b, o2, o3, o4, rfl, rfl, hf, _⟩
    rw [enumD_length, List.length_map, List.drop_length] at hf
    exact hq hf
end LS
namespace LS
open PySem PySem.Spec PyProof.Rows L2 DL
theorem at_cons0 {α : Type} {a : α} {xs : List α} : atI (a :: xs) 0 = some a := atI_nat (j := 0) rfl
theorem eL_cons {v z : Int} {ls : List (Int × Int)} : eL ((v, z) :: ls) = .tup [.int v, .int z] :: eL ls := rfl
theorem cell_last {n : Nat} {qa : Nat → Addr} : atI ((List.range (n + 1)).map fun i => D.cell (qa i)) (-1) = some (.cell (qa n)) := by
  unfold atI ixN
  rw [if_neg (by omega), if_pos (by simp; omega)]
  simp only [List.length_map, List.length_range]
  rw [show (-1 + ((n + 1 : Nat) : Int)).toNat = n by omega]
  show ((List.range (n + 1)).map fun i => D.cell (qa i))[n]? = _
  rw [List.getElem?_map, List.getElem?_range (by omega)]; rfl
theorem cell_last2 {n : Nat} {qa : Nat → Addr} (h : 1 ≤ n) : atI ((List.range (n + 1)).map fun i => D.cell (qa i)) (-2) = some (.cell (qa (n - 1))) := by
  unfold atI ixN
  rw [if_neg (by omega), if_pos (by simp; omega)]
  simp only [List.length_map, List.length_range]
  rw [show (-2 + ((n + 1 : Nat) : Int)).toNat = n - 1 by omega]
  show ((List.range (n + 1)).map fun i => D.cell (qa i))[n - 1]? = _
  rw [List.getElem?_map, List.getElem?_range (by omega)]; rfl
def dN (d : Nat) (b : Bool) : Nat := if b then d + 1 else d
def Gt (t : T) (d : Nat) (z v : Int) : Nat → T
  | 0 => push t z v
  | 1 => LS.setU (push t z v) (2 * d) t.n
  | _ => LS.setU (LS.setU (push t z v) (2 * d) t.n) (2 * d + 1) t.n
theorem Qs_grow {t : T} {d : Nat} {b : Bool} {z v : Int} (hd : 2 * d ≤ t.n) (hb : b = true → 2 * d + 1 < t.n) : Qs (grow t d b z v) (dN d b) = Qs t (dN d b) ++ (if (t.n + 1) % 2 = 0 then [Q1 (push t z v) (t.n / 2)] else []) := by
  cases b with
  | false => exact Qs_push hd
  | true =>
    have := hb rfl
    show Qs (hang2 (push t z v) d t.n) (d + 1) = Qs t (d + 1) ++ _
    rw [Qs_hang]
    exact Qs_push (by omega)
theorem h__law_made (cl : Str → Addr) : DOk (P__law_made cl) (w__law_made cl) 10 := by
  rintro ds cs Φ Ψ ⟨l, rfl, cl0, n1, hq⟩
  unfold w__law_made
  refine cut (fun ρ' cs' => ∃ p ls, ρ' = [some (eC l), some (.lst (eL ls)), some (.lst []), some (.cell p), none, none, none, none, none, none] ∧ cs p = none ∧ cs' = setc cs p (.lst []) ∧ Mk (l.length + 1) T0 0 ls ∧ SortedOf l ls) (fun B hB => ?_) ?_
  · simp [-List.lookup_eq_none_iff, dSeq, dIf, dB, dOp, dVar, dC, dUn, dAsg, dCB, dCons, dNil, dgName, dgSub, dRet, dRetN, dDrop, dNext, dBreak, dCont, dNever, dIfE, dAnd, dOr, dNot, dTru, dAndV, dOrV, dNotV, dTup, dLst, nF, nC, dFld, dSetF, dCall, dMeth, dMake, dPar, dPar3, dgTup, dgCons, dgNil, dAug, dAugS2, dAugF, dBM, dBM0, dChain, dYes, dSl, dPart, dNoPart, wSl, wLt, wLe, wGt, wGe, wI, wI0, wAdd, wSub, wMod, wDiv, wPow, wMul, wEq, wEqB, wNe, wIsN, wIsB, wLen, wInt, wMax2, wMin2, wI2, wIxA, wSet, wGetC, wIp, wTupleOf, wStrI, wIsi, wIn, wInT, wAppend, wPop, wInsert, wLM, wGet, dkey, startD, tru, dty, lq, dRevL, putD, CDiv, CMul, CPow, setc_same, setc_setc, eC, wSortP, dLc_eq, diSeq]
    refine lc_gen (fun i => (l.take i).map fun q => D.tup [.int q.2, .int q.1]) trivial (by simp; omega) rfl (fun i x hx B2 hB2 => ?_) ?_
    · rw [List.getElem?_map] at hx
      cases e : l[i]? with
      | none => rw [e] at hx; cases hx
      | some q =>
        rw [e] at hx
        cases hx
        rw [List.take_add_one, e] at hB2
        simp [-List.lookup_eq_none_iff, dSeq, dIf, dB, dOp, dVar, dC, dUn, dAsg, dCB, dCons, dNil, dgName, dgSub, dRet, dRetN, dDrop, dNext, dBreak, dCont, dNever, dIfE, dAnd, dOr, dNot, dTru, dAndV, dOrV, dNotV, dTup, dLst, nF, nC, dFld, dSetF, dCall, dMeth, dMake, dPar, dPar3, dgTup, dgCons, dgNil, dAug, dAugS2, dAugF, dBM, dBM0, dChain, dYes, dSl, dPart, dNoPart, wSl, wLt, wLe, wGt, wGe, wI, wI0, wAdd, wSub, wMod, wDiv, wPow, wMul, wEq, wEqB, wNe, wIsN, wIsB, wLen, wInt, wMax2, wMin2, wI2, wIxA, wSet, wGetC, wIp, wTupleOf, wStrI, wIsi, wIn, wInT, wAppend, wPop, wInsert, wLM, wGet, dkey, startD, tru, dty, lq, dRevL, putD, CDiv, CMul, CPow, setc_same, setc_setc, wipeD]
        simpa using hB2
    · simp [-List.lookup_eq_none_iff, dSeq, dIf, dB, dOp, dVar, dC, dUn, dAsg, dCB, dCons, dNil, dgName, dgSub, dRet, dRetN, dDrop, dNext, dBreak, dCont, dNever, dIfE, dAnd, dOr, dNot, dTru, dAndV, dOrV, dNotV, dTup, dLst, nF, nC, dFld, dSetF, dCall, dMeth, dMake, dPar, dPar3, dgTup, dgCons, dgNil, dAug, dAugS2, dAugF, dBM, dBM0, dChain, dYes, dSl, dPart, dNoPart, wSl, wLt, wLe, wGt, wGe, wI, wI0, wAdd, wSub, wMod, wDiv, wPow, wMul, wEq, wEqB, wNe, wIsN, wIsB, wLen, wInt, wMax2, wMin2, wI2, wIxA, wSet, wGetC, wIp, wTupleOf, wStrI, wIsi, wIn, wInT, wAppend, wPop, wInsert, wLM, wGet, dkey, startD, tru, dty, lq, dRevL, putD, CDiv, CMul, CPow, setc_same, setc_setc]
      refine ⟨by omega, (l.map sw ++ [(1, 256)]).map pr, ?_, ?_, ?_⟩
      · rw [tup_pr, List.map_append, List.map_map]; rfl
      · intro ns hns
        obtain ⟨q, hq, rfl⟩ := List.mem_map.mp hns
        refine ⟨rfl, ?_⟩
        rcases List.mem_append.mp hq with hq | hq
        · obtain ⟨r, hr, rfl⟩ := List.mem_map.mp hq
          have := cl0.ok r hr
          exact bd2 (by simp only [sw]; omega) (by simp only [sw]; omega) (by simp only [sw]; omega) (by simp only [sw]; omega)
        · rw [List.mem_singleton] at hq; subst hq
          exact bd2 (by decide) (by decide) (by decide) (by decide)
      · intro nss hp hw
        obtain ⟨ls, rfl, pm⟩ := perm_pr hp
        rw [tup_pr]
        intro p hp2
        have pw : ls.Pairwise fun p q => p.1 * 1048576 + p.2 ≤ q.1 * 1048576 + q.2 := by
          rw [List.pairwise_map] at hw
          exact hw.imp fun {p q} h => by
            rw [show pr p = [p.1, p.2] from rfl, show pr q = [q.1, q.2] from rfl, code2, code2] at h
            exact h
        exact hB _ _ ⟨p, ls, rfl, hp2, rfl, Mk_init cl0 pm pw, pm, pw⟩
  rintro _ _ ⟨p, ls0, rfl, hp, rfl, mk0, so⟩
  have len0 : ls0.length = l.length + 1 := by rw [so.1.length_eq]; simp
  refine cut (fun ρ' cs' => ∃ t qa o1 o2 o4 o5 o6 o7 o8 o9, ρ' = [some (eC l), o1, o2, some (.cell p), o4, o5, o6, o7, o8, o9] ∧ NR cs cs' p qa t ∧ Right t ∧ t.n = 2 * l.length + 1 ∧ t = mkT ls0) (fun B hB => ?_) ?_
  · rw [dFor_eq]
    have e1 : ((2 * (l.length : Int) + 1)).toNat = 2 * l.length + 1 := by omega
    simp [-List.lookup_eq_none_iff, dSeq, dIf, dB, dOp, dVar, dC, dUn, dAsg, dCB, dCons, dNil, dgName, dgSub, dRet, dRetN, dDrop, dNext, dBreak, dCont, dNever, dIfE, dAnd, dOr, dNot, dTru, dAndV, dOrV, dNotV, dTup, dLst, nF, nC, dFld, dSetF, dCall, dMeth, dMake, dPar, dPar3, dgTup, dgCons, dgNil, dAug, dAugS2, dAugF, dBM, dBM0, dChain, dYes, dSl, dPart, dNoPart, wSl, wLt, wLe, wGt, wGe, wI, wI0, wAdd, wSub, wMod, wDiv, wPow, wMul, wEq, wEqB, wNe, wIsN, wIsB, wLen, wInt, wMax2, wMin2, wI2, wIxA, wSet, wGetC, wIp, wTupleOf, wStrI, wIsi, wIn, wInT, wAppend, wPop, wInsert, wLM, wGet, dkey, startD, tru, dty, lq, dRevL, putD, CDiv, CMul, CPow, setc_same, setc_setc, diRng1, eC, e1]
    refine ⟨by omega, by omega, ?_⟩
    refine for_gen (fun j ρ' cs' => ∃ t d ls qa o4 o5 o6 o7 o8, ρ' = [some (eC l), some (.lst (eL ls)), some (.lst (Qs t d)), some (.cell p), o4, o5, o6, o7, o8, none] ∧ NR cs cs' p qa t ∧ Mk (l.length + 1) t d ls ∧ t.n = j ∧ itr j (T0, 0, ls0) = (t, d, ls))
      ⟨T0, 0, ls0, _, none, none, none, none, none, rfl, NR.zero hp, mk0, rfl, rfl⟩ (fun _ _ _ _ => trivial) ?_ ?_
    · rintro j _ cs2 x ⟨t, d, ls, qa, o4, o5, o6, o7, o8, rfl, nr, mk, en, it⟩ hx C hC
      obtain ⟨hj, rfl⟩ := rng_get hx
      have y0 : (0 : Int) + (j : Int) = j := by omega
      have num := mk.num
      have dn := mk.dn
      refine cut (fun ρ' cs' => ∃ z v b ls' o8, ρ' = [some (eC l), some (.lst (eL ls')), some (.lst (Qs t (dN d b))), some (.cell p), some (.int j), some (.int v), some (.int z), some (.lst (below d b)), o8, none] ∧ cs2 = cs' ∧ (b = true → 2 * d + 1 < t.n) ∧ Mk (l.length + 1) (grow t d b z v) (dN d b) ls' ∧ stp (t, d, ls) = (grow t d b z v, dN d b, ls')) (fun E hE => ?_) ?_
      · have pairStep : ∀ (h2 : 2 * d + 1 < t.n), (∀ q ∈ ls, psum t d ≤ q.1) → stp (t, d, ls) = (grow t d true (-1) (psum t d), d + 1, ls) → E [some (eC l), some (.lst (eL ls)), some (.lst (Qs t (d + 1))), some (.cell p), some (.int j), some (.int (psum t d)), some (.int (-1)), some (.lst [.int (2 * (d : Int)), .int (2 * (d : Int) + 1)]), o8, none] cs2 := fun h2 h hs => hE _ _ ⟨-1, psum t d, true, ls, o8, rfl, rfl, fun _ => h2, mk.pair h2 h, hs⟩
        have leafStep : ∀ v z ls', ls = (v, z) :: ls' → (2 * d + 1 < t.n → v ≤ psum t d) → stp (t, d, ls) = (grow t d false z v, d, ls') → E [some (eC l), some (.lst (eL ls')), some (.lst (Qs t d)), some (.cell p), some (.int j), some (.int v), some (.int z), some (.lst []), o8, none] cs2 := fun v z ls' e h hs => hE _ _ ⟨z, v, false, ls', o8, rfl, rfl, (fun e2 => nomatch e2), (by subst e; exact mk.leaf h), hs⟩
        by_cases h2 : 2 * d + 1 < t.n
        · have hQ : Qs t d = Q1 t d :: Qs t (d + 1) := Qs_head h2
          cases ls with
          | nil =>
            have ps := pairStep h2 (by simp) rfl
            rw [hQ, show eL [] = [] from rfl]
            simp [-List.lookup_eq_none_iff, dSeq, dIf, dB, dOp, dVar, dC, dUn, dAsg, dCB, dCons, dNil, dgName, dgSub, dRet, dRetN, dDrop, dNext, dBreak, dCont, dNever, dIfE, dAnd, dOr, dNot, dTru, dAndV, dOrV, dNotV, dTup, dLst, nF, nC, dFld, dSetF, dCall, dMeth, dMake, dPar, dPar3, dgTup, dgCons, dgNil, dAug, dAugS2, dAugF, dBM, dBM0, dChain, dYes, dSl, dPart, dNoPart, wSl, wLt, wLe, wGt, wGe, wI, wI0, wAdd, wSub, wMod, wDiv, wPow, wMul, wEq, wEqB, wNe, wIsN, wIsB, wLen, wInt, wMax2, wMin2, wI2, wIxA, wSet, wGetC, wIp, wTupleOf, wStrI, wIsi, wIn, wInT, wAppend, wPop, wInsert, wLM, wGet, dkey, startD, tru, dty, lq, dRevL, putD, CDiv, CMul, CPow, setc_same, setc_setc, y0, at_cons0, at2_0, at2_1, Q1, cutD_tl]
            exact ⟨_, rfl, by rw [cutD_tl]; exact ps⟩
          | cons q ls' =>
            obtain ⟨v, z⟩ := q
            by_cases le : v ≤ psum t d
            · have lf := leafStep v z ls' rfl (fun _ => le) (by simp only [stp]; rw [if_neg (by omega)]; rfl)
              rw [hQ] at lf
              rw [hQ, eL_cons]
              simp [-List.lookup_eq_none_iff, dSeq, dIf, dB, dOp, dVar, dC, dUn, dAsg, dCB, dCons, dNil, dgName, dgSub, dRet, dRetN, dDrop, dNext, dBreak, dCont, dNever, dIfE, dAnd, dOr, dNot, dTru, dAndV, dOrV, dNotV, dTup, dLst, nF, nC, dFld, dSetF, dCall, dMeth, dMake, dPar, dPar3, dgTup, dgCons, dgNil, dAug, dAugS2, dAugF, dBM, dBM0, dChain, dYes, dSl, dPart, dNoPart, wSl, wLt, wLe, wGt, wGe, wI, wI0, wAdd, wSub, wMod, wDiv, wPow, wMul, wEq, wEqB, wNe, wIsN, wIsB, wLen, wInt, wMax2, wMin2, wI2, wIxA, wSet, wGetC, wIp, wTupleOf, wStrI, wIsi, wIn, wInT, wAppend, wPop, wInsert, wLM, wGet, dkey, startD, tru, dty, lq, dRevL, putD, CDiv, CMul, CPow, setc_same, setc_setc, y0, at_cons0, at2_0, at2_1, Q1, cutD_tl, le]
              exact ⟨_, rfl, by rw [cutD_tl]; exact lf⟩
            · have ps := pairStep h2 (fun q hq => by
                rcases List.mem_cons.mp hq with rfl | hq
                · simp only; omega
                · have := (List.pairwise_cons.mp mk.lsrt).1 q hq; simp only at this; omega) (by simp only [stp]; rw [if_pos ⟨h2, by omega⟩]; rfl)
              rw [hQ]
              rw [eL_cons] at ps ⊢
              simp [-List.lookup_eq_none_iff, dSeq, dIf, dB, dOp, dVar, dC, dUn, dAsg, dCB, dCons, dNil, dgName, dgSub, dRet, dRetN, dDrop, dNext, dBreak, dCont, dNever, dIfE, dAnd, dOr, dNot, dTru, dAndV, dOrV, dNotV, dTup, dLst, nF, nC, dFld, dSetF, dCall, dMeth, dMake, dPar, dPar3, dgTup, dgCons, dgNil, dAug, dAugS2, dAugF, dBM, dBM0, dChain, dYes, dSl, dPart, dNoPart, wSl, wLt, wLe, wGt, wGe, wI, wI0, wAdd, wSub, wMod, wDiv, wPow, wMul, wEq, wEqB, wNe, wIsN, wIsB, wLen, wInt, wMax2, wMin2, wI2, wIxA, wSet, wGetC, wIp, wTupleOf, wStrI, wIsi, wIn, wInT, wAppend, wPop, wInsert, wLM, wGet, dkey, startD, tru, dty, lq, dRevL, putD, CDiv, CMul, CPow, setc_same, setc_setc, y0, at_cons0, at2_0, at2_1, Q1, cutD_tl, le]
              exact ⟨_, rfl, by rw [cutD_tl]; exact ps⟩
        · have hQ : Qs t d = [] := Qs_nil h2
          cases ls with
          | nil => simp at num; omega
          | cons q ls' =>
            obtain ⟨v, z⟩ := q
            have lf := leafStep v z ls' rfl (fun h => absurd h h2) (by simp only [stp]; rw [if_neg (by omega)]; rfl)
            rw [hQ] at lf
            rw [hQ, eL_cons]
            simp [-List.lookup_eq_none_iff, dSeq, dIf, dB, dOp, dVar, dC, dUn, dAsg, dCB, dCons, dNil, dgName, dgSub, dRet, dRetN, dDrop, dNext, dBreak, dCont, dNever, dIfE, dAnd, dOr, dNot, dTru, dAndV, dOrV, dNotV, dTup, dLst, nF, nC, dFld, dSetF, dCall, dMeth, dMake, dPar, dPar3, dgTup, dgCons, dgNil, dAug, dAugS2, dAugF, dBM, dBM0, dChain, dYes, dSl, dPart, dNoPart, wSl, wLt, wLe, wGt, wGe, wI, wI0, wAdd, wSub, wMod, wDiv, wPow, wMul, wEq, wEqB, wNe, wIsN, wIsB, wLen, wInt, wMax2, wMin2, wI2, wIxA, wSet, wGetC, wIp, wTupleOf, wStrI, wIsi, wIn, wInT, wAppend, wPop, wInsert, wLM, wGet, dkey, startD, tru, dty, lq, dRevL, putD, CDiv, CMul, CPow, setc_same, setc_setc, y0, at_cons0, at2_0, at2_1, cutD_tl]
            exact ⟨_, rfl, by rw [cutD_tl]; exact lf⟩
      rintro _ _ ⟨z, v, b, ls', o8', rfl, rfl, hb, mk2, hst⟩
      have it2 : itr (j + 1) (T0, 0, ls0) = (grow t d b z v, dN d b, ls') := by show stp (itr j (T0, 0, ls0)) = _; rw [it]; exact hst
      have tn : t.n ≤ 1000 := by omega
      refine cut (fun ρ' cs' => ∃ qb, ρ' = [some (eC l), some (.lst (eL ls')), some (.lst (Qs t (dN d b))), some (.cell p), some (.int j), some (.int v), some (.int z), some (.lst (below d b)), o8', none] ∧ NR cs cs' p qb (push t z v)) (fun E hE => ?_) ?_
      · simp [-List.lookup_eq_none_iff, dSeq, dIf, dB, dOp, dVar, dC, dUn, dAsg, dCB, dCons, dNil, dgName, dgSub, dRet, dRetN, dDrop, dNext, dBreak, dCont, dNever, dIfE, dAnd, dOr, dNot, dTru, dAndV, dOrV, dNotV, dTup, dLst, nF, nC, dFld, dSetF, dCall, dMeth, dMake, dPar, dPar3, dgTup, dgCons, dgNil, dAug, dAugS2, dAugF, dBM, dBM0, dChain, dYes, dSl, dPart, dNoPart, wSl, wLt, wLe, wGt, wGe, wI, wI0, wAdd, wSub, wMod, wDiv, wPow, wMul, wEq, wEqB, wNe, wIsN, wIsB, wLen, wInt, wMax2, wMin2, wI2, wIxA, wSet, wGetC, wIp, wTupleOf, wStrI, wIsi, wIn, wInT, wAppend, wPop, wInsert, wLM, wGet, dkey, startD, tru, dty, lq, dRevL, putD, CDiv, CMul, CPow, setc_same, setc_setc, nr.hp]
        intro q hq
        have pq : p ≠ q := fun e => by rw [← e, nr.hp] at hq; cases hq
        simp [-List.lookup_eq_none_iff, dSeq, dIf, dB, dOp, dVar, dC, dUn, dAsg, dCB, dCons, dNil, dgName, dgSub, dRet, dRetN, dDrop, dNext, dBreak, dCont, dNever, dIfE, dAnd, dOr, dNot, dTru, dAndV, dOrV, dNotV, dTup, dLst, nF, nC, dFld, dSetF, dCall, dMeth, dMake, dPar, dPar3, dgTup, dgCons, dgNil, dAug, dAugS2, dAugF, dBM, dBM0, dChain, dYes, dSl, dPart, dNoPart, wSl, wLt, wLe, wGt, wGe, wI, wI0, wAdd, wSub, wMod, wDiv, wPow, wMul, wEq, wEqB, wNe, wIsN, wIsB, wLen, wInt, wMax2, wMin2, wI2, wIxA, wSet, wGetC, wIp, wTupleOf, wStrI, wIsi, wIn, wInT, wAppend, wPop, wInsert, wLM, wGet, dkey, startD, tru, dty, lq, dRevL, putD, CDiv, CMul, CPow, setc_same, setc_setc, setc_ne pq, nr.hp]
        exact ⟨by omega, hE _ _ ⟨_, rfl, nr.push hq⟩⟩
      rintro _ cs3 ⟨qb, rfl, nr3⟩
      refine cut (fun ρ' cs' => ∃ o8, ρ' = [some (eC l), some (.lst (eL ls')), some (.lst (Qs t (dN d b))), some (.cell p), some (.int j), some (.int v), some (.int z), some (.lst (below d b)), o8, none] ∧ NR cs cs' p qb (grow t d b z v)) (fun E hE => ?_) ?_
      · rw [dFor_eq]
        cases b with
        | false =>
          simp [-List.lookup_eq_none_iff, dSeq, dIf, dB, dOp, dVar, dC, dUn, dAsg, dCB, dCons, dNil, dgName, dgSub, dRet, dRetN, dDrop, dNext, dBreak, dCont, dNever, dIfE, dAnd, dOr, dNot, dTru, dAndV, dOrV, dNotV, dTup, dLst, nF, nC, dFld, dSetF, dCall, dMeth, dMake, dPar, dPar3, dgTup, dgCons, dgNil, dAug, dAugS2, dAugF, dBM, dBM0, dChain, dYes, dSl, dPart, dNoPart, wSl, wLt, wLe, wGt, wGe, wI, wI0, wAdd, wSub, wMod, wDiv, wPow, wMul, wEq, wEqB, wNe, wIsN, wIsB, wLen, wInt, wMax2, wMin2, wI2, wIxA, wSet, wGetC, wIp, wTupleOf, wStrI, wIsi, wIn, wInT, wAppend, wPop, wInsert, wLM, wGet, dkey, startD, tru, dty, lq, dRevL, putD, CDiv, CMul, CPow, setc_same, setc_setc, diSeq, below]
          refine for_gen (fun i ρ' cs' => ρ' = [some (eC l), some (.lst (eL ls')), some (.lst (Qs t (dN d false))), some (.cell p), some (.int j), some (.int v), some (.int z), some (.lst []), o8', none] ∧ cs' = cs3) ⟨rfl, rfl⟩ (fun _ _ _ _ => trivial) (fun i ρ2 cs2 x h hx => by simp at hx) ?_
          rintro _ _ ⟨rfl, rfl⟩
          exact hE _ _ ⟨_, rfl, nr3⟩
        | true =>
          have h2 := hb rfl
          simp [-List.lookup_eq_none_iff, dSeq, dIf, dB, dOp, dVar, dC, dUn, dAsg, dCB, dCons, dNil, dgName, dgSub, dRet, dRetN, dDrop, dNext, dBreak, dCont, dNever, dIfE, dAnd, dOr, dNot, dTru, dAndV, dOrV, dNotV, dTup, dLst, nF, nC, dFld, dSetF, dCall, dMeth, dMake, dPar, dPar3, dgTup, dgCons, dgNil, dAug, dAugS2, dAugF, dBM, dBM0, dChain, dYes, dSl, dPart, dNoPart, wSl, wLt, wLe, wGt, wGe, wI, wI0, wAdd, wSub, wMod, wDiv, wPow, wMul, wEq, wEqB, wNe, wIsN, wIsB, wLen, wInt, wMax2, wMin2, wI2, wIxA, wSet, wGetC, wIp, wTupleOf, wStrI, wIsi, wIn, wInT, wAppend, wPop, wInsert, wLM, wGet, dkey, startD, tru, dty, lq, dRevL, putD, CDiv, CMul, CPow, setc_same, setc_setc, diSeq, below]
          refine for_gen (fun i ρ' cs' => ∃ o8, ρ' = [some (eC l), some (.lst (eL ls')), some (.lst (Qs t (dN d true))), some (.cell p), some (.int j), some (.int v), some (.int z), some (.lst [.int (2 * (d : Int)), .int (2 * (d : Int) + 1)]), o8, none] ∧ NR cs cs' p qb (Gt t d z v i)) ⟨_, rfl, nr3⟩ (fun _ _ _ _ => trivial) ?_ ?_
          · rintro i _ cs5 x ⟨o8, rfl, nr5⟩ hx C2 hC2
            have i2 : ixN 3 2 = some 2 := rfl
            have nG : (Gt t d z v i).n = t.n + 1 := by match i with | 0 => rfl | 1 => rfl | _ + 2 => rfl
            have ex : ∃ m : Nat, x = .int (m : Int) ∧ m < (Gt t d z v i).n ∧ LS.setU (Gt t d z v i) m t.n = Gt t d z v (i + 1) := by
              match i, hx with
              | 0, hx => cases hx; exact ⟨2 * d, by simp, by rw [nG]; omega, rfl⟩
              | 1, hx => cases hx; exact ⟨2 * d + 1, by simp, by rw [nG]; omega, rfl⟩
              | i + 2, hx => simp at hx
            obtain ⟨m, rfl, hm, eG⟩ := ex
            show dOp _ _ _ _ _ _ _
            have hp5 := nr5.hp
            rw [nG] at hp5
            refine cute (fun d2 cs' => d2 = .int (t.n : Int) ∧ cs5 = cs') (fun E2 hE2 => ?_) ?_
            · simp [-List.lookup_eq_none_iff, dSeq, dIf, dB, dOp, dVar, dC, dUn, dAsg, dCB, dCons, dNil, dgName, dgSub, dRet, dRetN, dDrop, dNext, dBreak, dCont, dNever, dIfE, dAnd, dOr, dNot, dTru, dAndV, dOrV, dNotV, dTup, dLst, nF, nC, dFld, dSetF, dCall, dMeth, dMake, dPar, dPar3, dgTup, dgCons, dgNil, dAug, dAugS2, dAugF, dBM, dBM0, dChain, dYes, dSl, dPart, dNoPart, wSl, wLt, wLe, wGt, wGe, wI, wI0, wAdd, wSub, wMod, wDiv, wPow, wMul, wEq, wEqB, wNe, wIsN, wIsB, wLen, wInt, wMax2, wMin2, wI2, wIxA, wSet, wGetC, wIp, wTupleOf, wStrI, wIsi, wIn, wInT, wAppend, wPop, wInsert, wLM, wGet, dkey, startD, tru, dty, lq, dRevL, putD, CDiv, CMul, CPow, setc_same, setc_setc, hp5]
              have := hE2 _ _ ⟨rfl, rfl⟩
              simpa using this
            rintro _ _ ⟨rfl, rfl⟩
            refine nest_set (k := 2) rfl rfl nr5.hp (cell_at hm) (nr5.hq m hm) i2 ?_
            refine hC2 _ _ ⟨_, rfl, ?_⟩
            rw [← eG]
            exact nr5.setU hm
          · rintro _ _ ⟨o8, rfl, nr5⟩
            refine hE _ _ ⟨_, rfl, ?_⟩
            have : Gt t d z v 2 = grow t d true z v := hang2_eq
            rw [← this]
            exact nr5
      rintro _ cs4 ⟨o8'', rfl, nr4⟩
      have gn : (grow t d b z v).n = t.n + 1 := by cases b <;> rfl
      have hp4 := nr4.hp
      rw [gn] at hp4
      have hQ := Qs_grow (z := z) (v := v) dn hb
      have ck : (grow t d b z v).c = (push t z v).c := by cases b <;> rfl
      by_cases e : (t.n + 1) % 2 = 0
      · rw [if_pos e] at hQ
        have e' : ((t.n : Int) + 1) % 2 = 0 := by omega
        refine cutif (fun c cs' => c = true ∧ cs4 = cs') (fun E hE => ?_) ?_ ?_
        · simp [-List.lookup_eq_none_iff, dSeq, dIf, dB, dOp, dVar, dC, dUn, dAsg, dCB, dCons, dNil, dgName, dgSub, dRet, dRetN, dDrop, dNext, dBreak, dCont, dNever, dIfE, dAnd, dOr, dNot, dTru, dAndV, dOrV, dNotV, dTup, dLst, nF, nC, dFld, dSetF, dCall, dMeth, dMake, dPar, dPar3, dgTup, dgCons, dgNil, dAug, dAugS2, dAugF, dBM, dBM0, dChain, dYes, dSl, dPart, dNoPart, wSl, wLt, wLe, wGt, wGe, wI, wI0, wAdd, wSub, wMod, wDiv, wPow, wMul, wEq, wEqB, wNe, wIsN, wIsB, wLen, wInt, wMax2, wMin2, wI2, wIxA, wSet, wGetC, wIp, wTupleOf, wStrI, wIsi, wIn, wInT, wAppend, wPop, wInsert, wLM, wGet, dkey, startD, tru, dty, lq, dRevL, putD, CDiv, CMul, CPow, setc_same, setc_setc, hp4, e']
          have := hE _ _ ⟨rfl, rfl⟩
          simpa using this
        · rintro _ ⟨_, rfl⟩
          have q1 := nr4.hq (t.n - 1) (by rw [gn]; omega)
          have q2 := nr4.hq t.n (by rw [gn]; omega)
          have l1 := cell_last (n := t.n) (qa := qb)
          have l2 := cell_last2 (n := t.n) (qa := qb) (by omega)
          simp [-List.lookup_eq_none_iff, dSeq, dIf, dB, dOp, dVar, dC, dUn, dAsg, dCB, dCons, dNil, dgName, dgSub, dRet, dRetN, dDrop, dNext, dBreak, dCont, dNever, dIfE, dAnd, dOr, dNot, dTru, dAndV, dOrV, dNotV, dTup, dLst, nF, nC, dFld, dSetF, dCall, dMeth, dMake, dPar, dPar3, dgTup, dgCons, dgNil, dAug, dAugS2, dAugF, dBM, dBM0, dChain, dYes, dSl, dPart, dNoPart, wSl, wLt, wLe, wGt, wGe, wI, wI0, wAdd, wSub, wMod, wDiv, wPow, wMul, wEq, wEqB, wNe, wIsN, wIsB, wLen, wInt, wMax2, wMin2, wI2, wIxA, wSet, wGetC, wIp, wTupleOf, wStrI, wIsi, wIn, wInT, wAppend, wPop, wInsert, wLM, wGet, dkey, startD, tru, dty, lq, dRevL, putD, CDiv, CMul, CPow, setc_same, setc_setc, hp4, l1, l2, q1, q2, at3_1]
          have qe : Q1 (push t z v) (t.n / 2) = D.tup [D.int ((grow t d b z v).c (t.n - 1) + (grow t d b z v).c t.n), D.lst [D.int ((t.n : Int) + 1 - 2), D.int (t.n : Int)]] := by
            unfold Q1 psum
            rw [ck, show 2 * (t.n / 2) = t.n - 1 by omega, show t.n - 1 + 1 = t.n by omega, show (2 * ((t.n / 2 : Nat) : Int)) = (t.n : Int) + 1 - 2 by omega, show (t.n : Int) + 1 - 2 + 1 = t.n by omega]
          have ql : (Qs t (dN d b)).length ≤ 16777215 := by
            unfold Qs; simp; omega
          exact ⟨ql, hC _ _ ⟨grow t d b z v, dN d b, _, _, _, _, _, _, _, by rw [hQ, qe], nr4, mk2, by rw [gn, en], it2⟩⟩
        · rintro _ ⟨h, _⟩; cases h
      · rw [if_neg e, List.append_nil] at hQ
        have e' : ¬ ((t.n : Int) + 1) % 2 = 0 := by omega
        refine cutif (fun c cs' => c = false ∧ cs4 = cs') (fun E hE => ?_) ?_ ?_
        · simp [-List.lookup_eq_none_iff, dSeq, dIf, dB, dOp, dVar, dC, dUn, dAsg, dCB, dCons, dNil, dgName, dgSub, dRet, dRetN, dDrop, dNext, dBreak, dCont, dNever, dIfE, dAnd, dOr, dNot, dTru, dAndV, dOrV, dNotV, dTup, dLst, nF, nC, dFld, dSetF, dCall, dMeth, dMake, dPar, dPar3, dgTup, dgCons, dgNil, dAug, dAugS2, dAugF, dBM, dBM0, dChain, dYes, dSl, dPart, dNoPart, wSl, wLt, wLe, wGt, wGe, wI, wI0, wAdd, wSub, wMod, wDiv, wPow, wMul, wEq, wEqB, wNe, wIsN, wIsB, wLen, wInt, wMax2, wMin2, wI2, wIxA, wSet, wGetC, wIp, wTupleOf, wStrI, wIsi, wIn, wInT, wAppend, wPop, wInsert, wLM, wGet, dkey, startD, tru, dty, lq, dRevL, putD, CDiv, CMul, CPow, setc_same, setc_setc, hp4, e']
          have := hE _ _ ⟨rfl, rfl⟩
          simpa using this
        · rintro _ ⟨h, _⟩; cases h
        · rintro _ ⟨_, rfl⟩
          exact hC _ _ ⟨_, _, _, _, _, _, _, _, _, by rw [hQ], nr4, mk2, by rw [gn, en], it2⟩
    · rintro _ _ ⟨t, d, ls, qa, o4, o5, o6, o7, o8, rfl, nr, mk, en, it⟩
      rw [rng_length] at en it
      exact hB _ _ ⟨t, qa, _, _, _, _, _, _, _, _, rfl, nr, mk.right (by omega) (by omega), en, by unfold mkT; rw [len0, show 2 * (l.length + 1) - 1 = 2 * l.length + 1 by omega, it]⟩
  rintro _ _ ⟨t, qa, o1, o2, o4, o5, o6, o7, o8, o9, rfl, nr, r, en, rfl⟩
  simp [-List.lookup_eq_none_iff, dSeq, dIf, dB, dOp, dVar, dC, dUn, dAsg, dCB, dCons, dNil, dgName, dgSub, dRet, dRetN, dDrop, dNext, dBreak, dCont, dNever, dIfE, dAnd, dOr, dNot, dTru, dAndV, dOrV, dNotV, dTup, dLst, nF, nC, dFld, dSetF, dCall, dMeth, dMake, dPar, dPar3, dgTup, dgCons, dgNil, dAug, dAugS2, dAugF, dBM, dBM0, dChain, dYes, dSl, dPart, dNoPart, wSl, wLt, wLe, wGt, wGe, wI, wI0, wAdd, wSub, wMod, wDiv, wPow, wMul, wEq, wEqB, wNe, wIsN, wIsB, wLen, wInt, wMax2, wMin2, wI2, wIxA, wSet, wGetC, wIp, wTupleOf, wStrI, wIsi, wIn, wInT, wAppend, wPop, wInsert, wLM, wGet, dkey, startD, tru, dty, lq, dRevL, putD, CDiv, CMul, CPow, setc_same, setc_setc]
  exact ⟨_, _, GhV.deep nr, hq ls0 so r en cs fun _ _ h => h⟩
end LS
namespace LS
open PySem PySem.Spec PyProof.Rows L2 DL
theorem h_least_sum (cl : Str → Addr) : DOk (P_least_sum cl) (w_least_sum cl) 3 := by
  rintro ds cs Φ Ψ ⟨t, l, rfl, c, mid, n1, pm, hq⟩
  have cl_ := c.len
  simp [-List.lookup_eq_none_iff, dSeq, dIf, dB, dOp, dVar, dC, dUn, dAsg, dCB, dCons, dNil, dgName, dgSub, dRet, dRetN, dDrop, dNext, dBreak, dCont, dNever, dIfE, dAnd, dOr, dNot, dTru, dAndV, dOrV, dNotV, dTup, dLst, nF, nC, dFld, dSetF, dCall, dMeth, dMake, dPar, dPar3, dgTup, dgCons, dgNil, dAug, dAugS2, dAugF, dBM, dBM0, dChain, dYes, dSl, dPart, dNoPart, wSl, wLt, wLe, wGt, wGe, wI, wI0, wAdd, wSub, wMod, wDiv, wPow, wMul, wEq, wEqB, wNe, wIsN, wIsB, wLen, wInt, wMax2, wMin2, wI2, wIxA, wSet, wGetC, wIp, wTupleOf, wStrI, wIsi, wIn, wInT, wAppend, wPop, wInsert, wLM, wGet, dkey, startD, tru, dty, lq, dRevL, putD, CDiv, CMul, CPow, setc_same, setc_setc, w_least_sum]
  refine ⟨l, rfl, by omega, fun _ => ?_, fun C v h => by rw [(fault_clo c.len).mpr c] at h; cases h⟩
  simp [-List.lookup_eq_none_iff, dSeq, dIf, dB, dOp, dVar, dC, dUn, dAsg, dCB, dCons, dNil, dgName, dgSub, dRet, dRetN, dDrop, dNext, dBreak, dCont, dNever, dIfE, dAnd, dOr, dNot, dTru, dAndV, dOrV, dNotV, dTup, dLst, nF, nC, dFld, dSetF, dCall, dMeth, dMake, dPar, dPar3, dgTup, dgCons, dgNil, dAug, dAugS2, dAugF, dBM, dBM0, dChain, dYes, dSl, dPart, dNoPart, wSl, wLt, wLe, wGt, wGe, wI, wI0, wAdd, wSub, wMod, wDiv, wPow, wMul, wEq, wEqB, wNe, wIsN, wIsB, wLen, wInt, wMax2, wMin2, wI2, wIxA, wSet, wGetC, wIp, wTupleOf, wStrI, wIsi, wIn, wInT, wAppend, wPop, wInsert, wLM, wGet, dkey, startD, tru, dty, lq, dRevL, putD, CDiv, CMul, CPow, setc_same, setc_setc, dLc_eq, diSeq, eC]
  refine lc_mapL (f := fun p => D.int p.2) trivial (by omega) (fun x hx B hB => ?_) ?_
  · simp [-List.lookup_eq_none_iff, dSeq, dIf, dB, dOp, dVar, dC, dUn, dAsg, dCB, dCons, dNil, dgName, dgSub, dRet, dRetN, dDrop, dNext, dBreak, dCont, dNever, dIfE, dAnd, dOr, dNot, dTru, dAndV, dOrV, dNotV, dTup, dLst, nF, nC, dFld, dSetF, dCall, dMeth, dMake, dPar, dPar3, dgTup, dgCons, dgNil, dAug, dAugS2, dAugF, dBM, dBM0, dChain, dYes, dSl, dPart, dNoPart, wSl, wLt, wLe, wGt, wGe, wI, wI0, wAdd, wSub, wMod, wDiv, wPow, wMul, wEq, wEqB, wNe, wIsN, wIsB, wLen, wInt, wMax2, wMin2, wI2, wIxA, wSet, wGetC, wIp, wTupleOf, wStrI, wIsi, wIn, wInT, wAppend, wPop, wInsert, wLM, wGet, dkey, startD, tru, dty, lq, dRevL, putD, CDiv, CMul, CPow, setc_same, setc_setc, wipeD]; exact hB
  · simp [-List.lookup_eq_none_iff, dSeq, dIf, dB, dOp, dVar, dC, dUn, dAsg, dCB, dCons, dNil, dgName, dgSub, dRet, dRetN, dDrop, dNext, dBreak, dCont, dNever, dIfE, dAnd, dOr, dNot, dTru, dAndV, dOrV, dNotV, dTup, dLst, nF, nC, dFld, dSetF, dCall, dMeth, dMake, dPar, dPar3, dgTup, dgCons, dgNil, dAug, dAugS2, dAugF, dBM, dBM0, dChain, dYes, dSl, dPart, dNoPart, wSl, wLt, wLe, wGt, wGe, wI, wI0, wAdd, wSub, wMod, wDiv, wPow, wMul, wEq, wEqB, wNe, wIsN, wIsB, wLen, wInt, wMax2, wMin2, wI2, wIxA, wSet, wGetC, wIp, wTupleOf, wStrI, wIsi, wIn, wInT, wAppend, wPop, wInsert, wLM, wGet, dkey, startD, tru, dty, lq, dRevL, putD, CDiv, CMul, CPow, setc_same, setc_setc]
    refine ⟨by omega, t, l.map Prod.snd ++ [1], ?_, mid, n1, pm, hq⟩
    simp
theorem h__law_tuple (cl : Str → Addr) : DOk (P__law_tuple cl) (w__law_tuple cl) 4 := by
  rintro ds cs Φ Ψ ⟨t, rfl, n1, hq⟩
  simp [-List.lookup_eq_none_iff, dSeq, dIf, dB, dOp, dVar, dC, dUn, dAsg, dCB, dCons, dNil, dgName, dgSub, dRet, dRetN, dDrop, dNext, dBreak, dCont, dNever, dIfE, dAnd, dOr, dNot, dTru, dAndV, dOrV, dNotV, dTup, dLst, nF, nC, dFld, dSetF, dCall, dMeth, dMake, dPar, dPar3, dgTup, dgCons, dgNil, dAug, dAugS2, dAugF, dBM, dBM0, dChain, dYes, dSl, dPart, dNoPart, wSl, wLt, wLe, wGt, wGe, wI, wI0, wAdd, wSub, wMod, wDiv, wPow, wMul, wEq, wEqB, wNe, wIsN, wIsB, wLen, wInt, wMax2, wMin2, wI2, wIxA, wSet, wGetC, wIp, wTupleOf, wStrI, wIsi, wIn, wInT, wAppend, wPop, wInsert, wLM, wGet, dkey, startD, tru, dty, lq, dRevL, putD, CDiv, CMul, CPow, setc_same, setc_setc, w__law_tuple, dLc_eq, diSeq, lR]
  refine lc_mapL (f := eJ t) trivial (by simp; omega) (fun i hi B hB => ?_) ?_
  · simp [-List.lookup_eq_none_iff, dSeq, dIf, dB, dOp, dVar, dC, dUn, dAsg, dCB, dCons, dNil, dgName, dgSub, dRet, dRetN, dDrop, dNext, dBreak, dCont, dNever, dIfE, dAnd, dOr, dNot, dTru, dAndV, dOrV, dNotV, dTup, dLst, nF, nC, dFld, dSetF, dCall, dMeth, dMake, dPar, dPar3, dgTup, dgCons, dgNil, dAug, dAugS2, dAugF, dBM, dBM0, dChain, dYes, dSl, dPart, dNoPart, wSl, wLt, wLe, wGt, wGe, wI, wI0, wAdd, wSub, wMod, wDiv, wPow, wMul, wEq, wEqB, wNe, wIsN, wIsB, wLen, wInt, wMax2, wMin2, wI2, wIxA, wSet, wGetC, wIp, wTupleOf, wStrI, wIsi, wIn, wInT, wAppend, wPop, wInsert, wLM, wGet, dkey, startD, tru, dty, lq, dRevL, putD, CDiv, CMul, CPow, setc_same, setc_setc, wipeD, lJ]
    exact hB
  · simp [-List.lookup_eq_none_iff, dSeq, dIf, dB, dOp, dVar, dC, dUn, dAsg, dCB, dCons, dNil, dgName, dgSub, dRet, dRetN, dDrop, dNext, dBreak, dCont, dNever, dIfE, dAnd, dOr, dNot, dTru, dAndV, dOrV, dNotV, dTup, dLst, nF, nC, dFld, dSetF, dCall, dMeth, dMake, dPar, dPar3, dgTup, dgCons, dgNil, dAug, dAugS2, dAugF, dBM, dBM0, dChain, dYes, dSl, dPart, dNoPart, wSl, wLt, wLe, wGt, wGe, wI, wI0, wAdd, wSub, wMod, wDiv, wPow, wMul, wEq, wEqB, wNe, wIsN, wIsB, wLen, wInt, wMax2, wMin2, wI2, wIxA, wSet, wGetC, wIp, wTupleOf, wStrI, wIsi, wIn, wInT, wAppend, wPop, wInsert, wLM, wGet, dkey, startD, tru, dty, lq, dRevL, putD, CDiv, CMul, CPow, setc_same, setc_setc]
    exact hq
theorem h__law_told (cl : Str → Addr) (em : Addr → Addr → Option Bool) (gd : Addr → Prop) (E : EmD em gd cl) : DOk (P__law_told cl) (w__law_told cl em gd) 3 := by
  rintro ds cs Φ Ψ ⟨l, rfl, l2, hq⟩
  unfold w__law_told dTry
  simp [-List.lookup_eq_none_iff, dSeq, dIf, dB, dOp, dVar, dC, dUn, dAsg, dCB, dCons, dNil, dgName, dgSub, dRet, dRetN, dDrop, dNext, dBreak, dCont, dNever, dIfE, dAnd, dOr, dNot, dTru, dAndV, dOrV, dNotV, dTup, dLst, nF, nC, dFld, dSetF, dCall, dMeth, dMake, dPar, dPar3, dgTup, dgCons, dgNil, dAug, dAugS2, dAugF, dBM, dBM0, dChain, dYes, dSl, dPart, dNoPart, wSl, wLt, wLe, wGt, wGe, wI, wI0, wAdd, wSub, wMod, wDiv, wPow, wMul, wEq, wEqB, wNe, wIsN, wIsB, wLen, wInt, wMax2, wMin2, wI2, wIxA, wSet, wGetC, wIp, wTupleOf, wStrI, wIsi, wIn, wInT, wAppend, wPop, wInsert, wLM, wGet, dkey, startD, tru, dty, lq, dRevL, putD, CDiv, CMul, CPow, setc_same, setc_setc]
  refine ⟨l, rfl, l2, fun cs' e => ⟨fun hf ls so r n => ?_, fun C v h => ?_⟩⟩
  · exact (hq cs' e).1 hf ls so r n
  · have fk : ∀ (l : List (Int × Int)) (b : Int) (i : Nat), fault b i l = some (C, v) → C = "BadLetter" ∨ C = "BadCount" := by
      intro l
      induction l with
      | nil => intro b i h; cases h
      | cons p r ih =>
        obtain ⟨z, w⟩ := p
        intro b i h
        rw [fault_drop] at h
        split at h
        · cases h; exact .inl rfl
        · split at h
          · cases h; exact .inr rfl
          · exact ih _ _ h
    have q := (hq cs' e).2 C v h
    rcases fk l _ _ h with rfl | rfl
    · refine ⟨true, E.ll, fun _ => ⟨E.gl, fun a dd => ?_⟩, fun h => by cases h⟩
      simp [-List.lookup_eq_none_iff, dSeq, dIf, dB, dOp, dVar, dC, dUn, dAsg, dCB, dCons, dNil, dgName, dgSub, dRet, dRetN, dDrop, dNext, dBreak, dCont, dNever, dIfE, dAnd, dOr, dNot, dTru, dAndV, dOrV, dNotV, dTup, dLst, nF, nC, dFld, dSetF, dCall, dMeth, dMake, dPar, dPar3, dgTup, dgCons, dgNil, dAug, dAugS2, dAugF, dBM, dBM0, dChain, dYes, dSl, dPart, dNoPart, wSl, wLt, wLe, wGt, wGe, wI, wI0, wAdd, wSub, wMod, wDiv, wPow, wMul, wEq, wEqB, wNe, wIsN, wIsB, wLen, wInt, wMax2, wMin2, wI2, wIxA, wSet, wGetC, wIp, wTupleOf, wStrI, wIsi, wIn, wInT, wAppend, wPop, wInsert, wLM, wGet, dkey, startD, tru, dty, lq, dRevL, putD, CDiv, CMul, CPow, setc_same, setc_setc, goneD, exnAt, dWhat]
      exact q
    · refine ⟨false, E.ct, (fun h => by cases h), fun _ => ⟨true, E.cc, fun _ => ⟨E.gc, fun a dd => ?_⟩, fun h => by cases h⟩⟩
      simp [-List.lookup_eq_none_iff, dSeq, dIf, dB, dOp, dVar, dC, dUn, dAsg, dCB, dCons, dNil, dgName, dgSub, dRet, dRetN, dDrop, dNext, dBreak, dCont, dNever, dIfE, dAnd, dOr, dNot, dTru, dAndV, dOrV, dNotV, dTup, dLst, nF, nC, dFld, dSetF, dCall, dMeth, dMake, dPar, dPar3, dgTup, dgCons, dgNil, dAug, dAugS2, dAugF, dBM, dBM0, dChain, dYes, dSl, dPart, dNoPart, wSl, wLt, wLe, wGt, wGe, wI, wI0, wAdd, wSub, wMod, wDiv, wPow, wMul, wEq, wEqB, wNe, wIsN, wIsB, wLen, wInt, wMax2, wMin2, wI2, wIxA, wSet, wGetC, wIp, wTupleOf, wStrI, wIsi, wIn, wInT, wAppend, wPop, wInsert, wLM, wGet, dkey, startD, tru, dty, lq, dRevL, putD, CDiv, CMul, CPow, setc_same, setc_setc, goneD, exnAt, dWhat]
      exact q
end LS
namespace LS
open PySem PySem.Spec PyProof.Rows L2 DL
theorem h__law_counts (cl : Str → Addr) : DOk (P__law_counts cl) (w__law_counts cl) 7 := by
  rintro ds cs Φ Ψ ⟨a, most, rfl, sr, h0, h1, hq⟩
  obtain ⟨ca, ea⟩ := sr.some
  unfold w__law_counts
  refine cut (fun ρ' cs' => ∃ (r : Addr) (g : Int), ρ' = [some (.cell a), some (.int most), some (.cell r), some (.int g), some (.int 1), none, none] ∧ Src cs' a ∧ r ≠ a ∧ cs r = none ∧ cs' r = some (.lst []) ∧ (∀ b, b ≠ a → b ≠ r → cs' b = cs b) ∧ 0 ≤ g ∧ g < 4) (fun B hB => ?_) ?_
  · simp [-List.lookup_eq_none_iff, dSeq, dIf, dB, dOp, dVar, dC, dUn, dAsg, dCB, dCons, dNil, dgName, dgSub, dRet, dRetN, dDrop, dNext, dBreak, dCont, dNever, dIfE, dAnd, dOr, dNot, dTru, dAndV, dOrV, dNotV, dTup, dLst, nF, nC, dFld, dSetF, dCall, dMeth, dMake, dPar, dPar3, dgTup, dgCons, dgNil, dAug, dAugS2, dAugF, dBM, dBM0, dChain, dYes, dSl, dPart, dNoPart, wSl, wLt, wLe, wGt, wGe, wI, wI0, wAdd, wSub, wMod, wDiv, wPow, wMul, wEq, wEqB, wNe, wIsN, wIsB, wLen, wInt, wMax2, wMin2, wI2, wIxA, wSet, wGetC, wIp, wTupleOf, wStrI, wIsi, wIn, wInT, wAppend, wPop, wInsert, wLM, wGet, dkey, startD, tru, dty, lq, dRevL, putD, CDiv, CMul, CPow, setc_same, setc_setc]
    intro r hr
    have nra : r ≠ a := fun z => by rw [z, ea] at hr; cases hr
    refine ⟨a, 4, rfl, sr.keep (setc_ne nra.symm), by omega, by omega, fun cs1 g s1 o1 g0 g1 => ?_⟩
    simp [-List.lookup_eq_none_iff, dSeq, dIf, dB, dOp, dVar, dC, dUn, dAsg, dCB, dCons, dNil, dgName, dgSub, dRet, dRetN, dDrop, dNext, dBreak, dCont, dNever, dIfE, dAnd, dOr, dNot, dTru, dAndV, dOrV, dNotV, dTup, dLst, nF, nC, dFld, dSetF, dCall, dMeth, dMake, dPar, dPar3, dgTup, dgCons, dgNil, dAug, dAugS2, dAugF, dBM, dBM0, dChain, dYes, dSl, dPart, dNoPart, wSl, wLt, wLe, wGt, wGe, wI, wI0, wAdd, wSub, wMod, wDiv, wPow, wMul, wEq, wEqB, wNe, wIsN, wIsB, wLen, wInt, wMax2, wMin2, wI2, wIxA, wSet, wGetC, wIp, wTupleOf, wStrI, wIsi, wIn, wInT, wAppend, wPop, wInsert, wLM, wGet, dkey, startD, tru, dty, lq, dRevL, putD, CDiv, CMul, CPow, setc_same, setc_setc]
    exact hB _ _ ⟨r, g, rfl, s1, nra, hr, by rw [o1 r nra, setc_same], fun b hb hbr => by rw [o1 b hb, setc_ne hbr], g0, g1⟩
  rintro _ cs1 ⟨r, wy, rfl, s1, nra, fr, er, ot, g0, g1⟩
  refine cut (fun ρ' cs' => ∃ (l : List (Int × Int)) (o4 o5 o6 : Option D), ρ' = [some (.cell a), some (.int most), some (.cell r), some (.int wy), o4, o5, o6] ∧ Src cs' a ∧ cs' r = some (.lst (l.map fun p => D.tup [.int p.1, .int p.2])) ∧ (∀ b, b ≠ a → b ≠ r → cs' b = cs b) ∧ CLo l ∧ l.length ≤ most.toNat) (fun B hB => ?_) ?_
  · rw [dFor_eq]
    simp only [dSeq, dIf, dB, dOp, dVar, dC, dUn, dAsg, dCB, dCons, dNil, dgName, dgSub, dRet, dRetN, dDrop, dNext, dBreak, dCont, dNever, dIfE, dAnd, dOr, dNot, dTru, dAndV, dOrV, dNotV, dTup, dLst, nF, nC, dFld, dSetF, dCall, dMeth, dMake, dPar, dPar3, dgTup, dgCons, dgNil, dAug, dAugS2, dAugF, dBM, dBM0, dChain, dYes, dSl, dPart, dNoPart, wSl, wLt, wLe, wGt, wGe, wI, wI0, wAdd, wSub, wMod, wDiv, wPow, wMul, wEq, wEqB, wNe, wIsN, wIsB, wLen, wInt, wMax2, wMin2, wI2, wIxA, wSet, wGetC, wIp, wTupleOf, wStrI, wIsi, wIn, wInT, wAppend, wPop, wInsert, wLM, wGet, dkey, startD, tru, dty, lq, dRevL, putD, CDiv, CMul, CPow, setc_same, setc_setc, diSeq, dSortSet, List.getElem?_cons_zero, List.getElem?_cons_succ]
    refine ⟨a, most, rfl, s1, by omega, by omega, fun ls nd rg l1 lm_ cs2 s2 o2 => ?_⟩
    refine ⟨_, ls, rfl, rfl, by omega, fun ks pw mem => ?_⟩
    have kl : ks.length ≤ ls.length := nodup_leG (by rw [List.nodup_iff_pairwise_ne]; exact pw.imp fun h => by omega) fun x hx => (mem x).mp hx
    show ForOk _ _ _ _ (ks.map D.int) _ _
    refine for_gen (fun i ρ' cs' => ∃ (l : List (Int × Int)) (tw : Int) (o5 o6 : Option D), ρ' = [some (.cell a), some (.int most), some (.cell r), some (.int wy), some (.int tw), o5, o6] ∧ 1 ≤ tw ∧ tw ≤ 1000000 ∧ Src cs' a ∧ cs' r = some (.lst (l.map fun p => D.tup [.int p.1, .int p.2])) ∧ (∀ b, b ≠ a → b ≠ r → cs' b = cs b) ∧ (l.map Prod.fst) = ks.take i ∧ (∀ p ∈ l, 1 ≤ p.2 ∧ p.2 ≤ 1000000))
      ⟨[], 1, none, none, rfl, by omega, by omega, s2, by rw [o2 r nra]; exact er, fun b hb hbr => by rw [o2 b hb]; exact ot b hb hbr, rfl, by simp⟩ (fun _ _ _ _ => trivial) ?_ ?_
    · rintro i _ cs3 x ⟨l, tw, o5, o6, rfl, tw1, tw2, s3, e3, ot3, fs, rg3⟩ hx B hB
      rw [List.getElem?_map] at hx
      cases ek : ks[i]? with
      | none => rw [ek] at hx; cases hx
      | some k =>
      rw [ek] at hx
      cases hx
      have hi : i < ks.length := (List.getElem?_eq_some_iff.mp ek).1
      simp only [dgName, List.set_cons_succ, List.set_cons_zero]
      refine cut (fun ρ' cs' => ∃ far : Int, ρ' = [some (.cell a), some (.int most), some (.cell r), some (.int wy), some (.int tw), some (.int k), some (.int far)] ∧ Src cs' a ∧ cs' r = some (.lst (l.map fun p => D.tup [.int p.1, .int p.2])) ∧ (∀ b, b ≠ a → b ≠ r → cs' b = cs b) ∧ 1 ≤ far ∧ far ≤ 1000000) (fun B2 h2 => ?_) ?_
      · simp [-List.lookup_eq_none_iff, dSeq, dIf, dB, dOp, dVar, dC, dUn, dAsg, dCB, dCons, dNil, dgName, dgSub, dRet, dRetN, dDrop, dNext, dBreak, dCont, dNever, dIfE, dAnd, dOr, dNot, dTru, dAndV, dOrV, dNotV, dTup, dLst, nF, nC, dFld, dSetF, dCall, dMeth, dMake, dPar, dPar3, dgTup, dgCons, dgNil, dAug, dAugS2, dAugF, dBM, dBM0, dChain, dYes, dSl, dPart, dNoPart, wSl, wLt, wLe, wGt, wGe, wI, wI0, wAdd, wSub, wMod, wDiv, wPow, wMul, wEq, wEqB, wNe, wIsN, wIsB, wLen, wInt, wMax2, wMin2, wI2, wIxA, wSet, wGetC, wIp, wTupleOf, wStrI, wIsi, wIn, wInT, wAppend, wPop, wInsert, wLM, wGet, dkey, startD, tru, dty, lq, dRevL, putD, CDiv, CMul, CPow, setc_same, setc_setc]
        refine ⟨a, 1000, rfl, s3, by omega, by omega, fun cs4 g4 s4 o4 g40 g41 => ?_⟩
        simp [-List.lookup_eq_none_iff, dSeq, dIf, dB, dOp, dVar, dC, dUn, dAsg, dCB, dCons, dNil, dgName, dgSub, dRet, dRetN, dDrop, dNext, dBreak, dCont, dNever, dIfE, dAnd, dOr, dNot, dTru, dAndV, dOrV, dNotV, dTup, dLst, nF, nC, dFld, dSetF, dCall, dMeth, dMake, dPar, dPar3, dgTup, dgCons, dgNil, dAug, dAugS2, dAugF, dBM, dBM0, dChain, dYes, dSl, dPart, dNoPart, wSl, wLt, wLe, wGt, wGe, wI, wI0, wAdd, wSub, wMod, wDiv, wPow, wMul, wEq, wEqB, wNe, wIsN, wIsB, wLen, wInt, wMax2, wMin2, wI2, wIxA, wSet, wGetC, wIp, wTupleOf, wStrI, wIsi, wIn, wInT, wAppend, wPop, wInsert, wLM, wGet, dkey, startD, tru, dty, lq, dRevL, putD, CDiv, CMul, CPow, setc_same, setc_setc]
        refine ⟨a, [.int 1, .int 2, .int 1000000, .int 999999, .int (1 + g4)], rfl, s4, by simp, by simp, fun d hd cs5 s5 o5 => ?_⟩
        have o45 := o4.trans o5
        have : ∃ z : Int, d = .int z ∧ 1 ≤ z ∧ z ≤ 1000000 := by
          simp only [List.mem_cons, List.not_mem_nil, or_false] at hd
          rcases hd with rfl | rfl | rfl | rfl | rfl
          · exact ⟨1, rfl, by omega, by omega⟩
          · exact ⟨2, rfl, by omega, by omega⟩
          · exact ⟨1000000, rfl, by omega, by omega⟩
          · exact ⟨999999, rfl, by omega, by omega⟩
          · exact ⟨1 + g4, rfl, by omega, by omega⟩
        obtain ⟨z, rfl, z1, z2⟩ := this
        exact h2 _ _ ⟨z, rfl, s5, by rw [o45 r nra]; exact e3, fun b hb hbr => by rw [o45 b hb]; exact ot3 b hb hbr, z1, z2⟩
      rintro _ cs4 ⟨far, rfl, s4, e4, ot4, far1, far2⟩
      simp [-List.lookup_eq_none_iff, dSeq, dIf, dB, dOp, dVar, dC, dUn, dAsg, dCB, dCons, dNil, dgName, dgSub, dRet, dRetN, dDrop, dNext, dBreak, dCont, dNever, dIfE, dAnd, dOr, dNot, dTru, dAndV, dOrV, dNotV, dTup, dLst, nF, nC, dFld, dSetF, dCall, dMeth, dMake, dPar, dPar3, dgTup, dgCons, dgNil, dAug, dAugS2, dAugF, dBM, dBM0, dChain, dYes, dSl, dPart, dNoPart, wSl, wLt, wLe, wGt, wGe, wI, wI0, wAdd, wSub, wMod, wDiv, wPow, wMul, wEq, wEqB, wNe, wIsN, wIsB, wLen, wInt, wMax2, wMin2, wI2, wIxA, wSet, wGetC, wIp, wTupleOf, wStrI, wIsi, wIn, wInT, wAppend, wPop, wInsert, wLM, wGet, dkey, startD, tru, dty, lq, dRevL, putD, CDiv, CMul, CPow, setc_same, setc_setc, e4]
      refine ⟨a, 5, rfl, s4, by omega, by omega, fun cs5 g5 s5 o5 g50 g51 => ?_⟩
      simp [-List.lookup_eq_none_iff, dSeq, dIf, dB, dOp, dVar, dC, dUn, dAsg, dCB, dCons, dNil, dgName, dgSub, dRet, dRetN, dDrop, dNext, dBreak, dCont, dNever, dIfE, dAnd, dOr, dNot, dTru, dAndV, dOrV, dNotV, dTup, dLst, nF, nC, dFld, dSetF, dCall, dMeth, dMake, dPar, dPar3, dgTup, dgCons, dgNil, dAug, dAugS2, dAugF, dBM, dBM0, dChain, dYes, dSl, dPart, dNoPart, wSl, wLt, wLe, wGt, wGe, wI, wI0, wAdd, wSub, wMod, wDiv, wPow, wMul, wEq, wEqB, wNe, wIsN, wIsB, wLen, wInt, wMax2, wMin2, wI2, wIxA, wSet, wGetC, wIp, wTupleOf, wStrI, wIsi, wIn, wInT, wAppend, wPop, wInsert, wLM, wGet, dkey, startD, tru, dty, lq, dRevL, putD, CDiv, CMul, CPow, setc_same, setc_setc]
      refine ⟨a, 2, rfl, s5, by omega, by omega, fun cs6 g6 s6 o6 g60 g61 => ?_⟩
      obtain ⟨v, hv, ev⟩ := int_at (ls := [1 + g5, 1 + g6, tw, far]) (g := wy) g0 (by simpa using g1)
      simp only [List.map_cons, List.map_nil] at ev
      have v1 : 1 ≤ v ∧ v ≤ 1000000 := by
        simp only [List.mem_cons, List.not_mem_nil, or_false] at hv
        omega
      have o56 := o5.trans o6
      have e6 : cs6 r = some (.lst (l.map fun p => D.tup [.int p.1, .int p.2])) := by rw [o56 r nra]; exact e4
      simp [-List.lookup_eq_none_iff, dSeq, dIf, dB, dOp, dVar, dC, dUn, dAsg, dCB, dCons, dNil, dgName, dgSub, dRet, dRetN, dDrop, dNext, dBreak, dCont, dNever, dIfE, dAnd, dOr, dNot, dTru, dAndV, dOrV, dNotV, dTup, dLst, nF, nC, dFld, dSetF, dCall, dMeth, dMake, dPar, dPar3, dgTup, dgCons, dgNil, dAug, dAugS2, dAugF, dBM, dBM0, dChain, dYes, dSl, dPart, dNoPart, wSl, wLt, wLe, wGt, wGe, wI, wI0, wAdd, wSub, wMod, wDiv, wPow, wMul, wEq, wEqB, wNe, wIsN, wIsB, wLen, wInt, wMax2, wMin2, wI2, wIxA, wSet, wGetC, wIp, wTupleOf, wStrI, wIsi, wIn, wInT, wAppend, wPop, wInsert, wLM, wGet, dkey, startD, tru, dty, lq, dRevL, putD, CDiv, CMul, CPow, setc_same, setc_setc, ev, e6]
      have lk : l.length = (ks.take i).length := by rw [← fs]; simp
      rw [List.length_take] at lk
      refine ⟨by omega, hB _ _ ⟨l ++ [(k, v)], _, _, _, rfl, by split <;> omega, by split <;> omega, s6.keep (setc_ne nra.symm), by rw [setc_same]; simp, fun b hb hbr => by rw [setc_ne hbr, o56 b hb]; exact ot4 b hb hbr, ?_, fun p hp => ?_⟩⟩
      · rw [List.map_append, fs, List.take_add_one, ek]; rfl
      · rcases List.mem_append.mp hp with hp | hp
        · exact rg3 p hp
        · have : p = (k, v) := by simpa using hp
          rw [this]; exact v1
    · rintro _ cs3 ⟨l, tw, o5, o6, rfl, tw1, tw2, s3, e3, ot3, fs, rg3⟩
      rw [List.length_map, List.take_length] at fs
      have ll : l.length = ks.length := by have := congrArg List.length fs; simpa using this
      refine hB _ _ ⟨l, _, o5, o6, rfl, s3, e3, ot3, ⟨?_, fun p hp => ?_, by omega⟩, by omega⟩
      · rw [← fs, List.pairwise_map] at pw; exact pw
      · have hk : p.1 ∈ ks := by rw [← fs]; exact List.mem_map.mpr ⟨p, hp, rfl⟩
        have := rg p.1 ((mem p.1).mp hk)
        have := rg3 p hp
        omega
  · rintro _ cs3 ⟨l, o4, o5, o6, rfl, s3, e3, ot3, c, ln⟩
    simp [-List.lookup_eq_none_iff, dSeq, dIf, dB, dOp, dVar, dC, dUn, dAsg, dCB, dCons, dNil, dgName, dgSub, dRet, dRetN, dDrop, dNext, dBreak, dCont, dNever, dIfE, dAnd, dOr, dNot, dTru, dAndV, dOrV, dNotV, dTup, dLst, nF, nC, dFld, dSetF, dCall, dMeth, dMake, dPar, dPar3, dgTup, dgCons, dgNil, dAug, dAugS2, dAugF, dBM, dBM0, dChain, dYes, dSl, dPart, dNoPart, wSl, wLt, wLe, wGt, wGe, wI, wI0, wAdd, wSub, wMod, wDiv, wPow, wMul, wEq, wEqB, wNe, wIsN, wIsB, wLen, wInt, wMax2, wMin2, wI2, wIxA, wSet, wGetC, wIp, wTupleOf, wStrI, wIsi, wIn, wInT, wAppend, wPop, wInsert, wLM, wGet, dkey, startD, tru, dty, lq, dRevL, putD, CDiv, CMul, CPow, setc_same, setc_setc, e3]
    exact hq l c ln cs3 s3 fun b c hb hc => by rw [ot3 b hb (ne_of_cs hc fr)]; exact hc

end LS
namespace LS
open PySem PySem.Spec PyProof.Rows L2 DL
def cntL (ls : List Int) (z : Int) : Int := ((ls.filter fun y => decide (y = z)).length : Int)
theorem h__law_counted (cl : Str → Addr) : DOk (P__law_counted cl) (w__law_counted cl) 3 := by
  rintro ds cs Φ Ψ ⟨ls, rfl, hz, l60, hq⟩
  simp [-List.lookup_eq_none_iff, dSeq, dIf, dB, dOp, dVar, dC, dUn, dAsg, dCB, dCons, dNil, dgName, dgSub, dRet, dRetN, dDrop, dNext, dBreak, dCont, dNever, dIfE, dAnd, dOr, dNot, dTru, dAndV, dOrV, dNotV, dTup, dLst, nF, nC, dFld, dSetF, dCall, dMeth, dMake, dPar, dPar3, dgTup, dgCons, dgNil, dAug, dAugS2, dAugF, dBM, dBM0, dChain, dYes, dSl, dPart, dNoPart, wSl, wLt, wLe, wGt, wGe, wI, wI0, wAdd, wSub, wMod, wDiv, wPow, wMul, wEq, wEqB, wNe, wIsN, wIsB, wLen, wInt, wMax2, wMin2, wI2, wIxA, wSet, wGetC, wIp, wTupleOf, wStrI, wIsi, wIn, wInT, wAppend, wPop, wInsert, wLM, wGet, dkey, startD, tru, dty, lq, dRevL, putD, CDiv, CMul, CPow, setc_same, setc_setc, w__law_counted, dLc_eq, diSeq, dSortSetT]
  refine ⟨ls, rfl, by omega, fun ks pw mem => ?_⟩
  have kl : ks.length ≤ ls.length := nodup_leG (by rw [List.nodup_iff_pairwise_ne]; exact pw.imp fun h => by omega) fun x hx => (mem x).mp hx
  refine lc_gen (fun i => (ks.take i).map fun z => D.tup [.int z, .int (cntL ls z)]) trivial (by simp; omega) rfl (fun i x hx B hB => ?_) ?_
  · rw [List.getElem?_map] at hx
    cases e : ks[i]? with
    | none => rw [e] at hx; cases hx
    | some z =>
      rw [e] at hx
      cases hx
      rw [List.take_add_one, e] at hB
      simp [-List.lookup_eq_none_iff, dSeq, dIf, dB, dOp, dVar, dC, dUn, dAsg, dCB, dCons, dNil, dgName, dgSub, dRet, dRetN, dDrop, dNext, dBreak, dCont, dNever, dIfE, dAnd, dOr, dNot, dTru, dAndV, dOrV, dNotV, dTup, dLst, nF, nC, dFld, dSetF, dCall, dMeth, dMake, dPar, dPar3, dgTup, dgCons, dgNil, dAug, dAugS2, dAugF, dBM, dBM0, dChain, dYes, dSl, dPart, dNoPart, wSl, wLt, wLe, wGt, wGe, wI, wI0, wAdd, wSub, wMod, wDiv, wPow, wMul, wEq, wEqB, wNe, wIsN, wIsB, wLen, wInt, wMax2, wMin2, wI2, wIxA, wSet, wGetC, wIp, wTupleOf, wStrI, wIsi, wIn, wInT, wAppend, wPop, wInsert, wLM, wGet, dkey, startD, tru, dty, lq, dRevL, putD, CDiv, CMul, CPow, setc_same, setc_setc, wipeD, dLc_eq, diSeq]
      refine lc_gen (fun j => ((ls.take j).filter fun y => decide (y = z)).map D.int) trivial (by simp; omega) rfl (fun j y hy B2 hB2 => ?_) ?_
      · rw [List.getElem?_map] at hy
        cases e2 : ls[j]? with
        | none => rw [e2] at hy; cases hy
        | some u =>
          rw [e2] at hy
          cases hy
          rw [List.take_add_one, e2, List.filter_append, List.map_append] at hB2
          simp [-List.lookup_eq_none_iff, dSeq, dIf, dB, dOp, dVar, dC, dUn, dAsg, dCB, dCons, dNil, dgName, dgSub, dRet, dRetN, dDrop, dNext, dBreak, dCont, dNever, dIfE, dAnd, dOr, dNot, dTru, dAndV, dOrV, dNotV, dTup, dLst, nF, nC, dFld, dSetF, dCall, dMeth, dMake, dPar, dPar3, dgTup, dgCons, dgNil, dAug, dAugS2, dAugF, dBM, dBM0, dChain, dYes, dSl, dPart, dNoPart, wSl, wLt, wLe, wGt, wGe, wI, wI0, wAdd, wSub, wMod, wDiv, wPow, wMul, wEq, wEqB, wNe, wIsN, wIsB, wLen, wInt, wMax2, wMin2, wI2, wIxA, wSet, wGetC, wIp, wTupleOf, wStrI, wIsi, wIn, wInT, wAppend, wPop, wInsert, wLM, wGet, dkey, startD, tru, dty, lq, dRevL, putD, CDiv, CMul, CPow, setc_same, setc_setc, wipeD]
          by_cases h : u = z
          · simpa [h] using hB2
          · simpa [h] using hB2
      · rw [List.length_map, List.take_length]
        simp [-List.lookup_eq_none_iff, dSeq, dIf, dB, dOp, dVar, dC, dUn, dAsg, dCB, dCons, dNil, dgName, dgSub, dRet, dRetN, dDrop, dNext, dBreak, dCont, dNever, dIfE, dAnd, dOr, dNot, dTru, dAndV, dOrV, dNotV, dTup, dLst, nF, nC, dFld, dSetF, dCall, dMeth, dMake, dPar, dPar3, dgTup, dgCons, dgNil, dAug, dAugS2, dAugF, dBM, dBM0, dChain, dYes, dSl, dPart, dNoPart, wSl, wLt, wLe, wGt, wGe, wI, wI0, wAdd, wSub, wMod, wDiv, wPow, wMul, wEq, wEqB, wNe, wIsN, wIsB, wLen, wInt, wMax2, wMin2, wI2, wIxA, wSet, wGetC, wIp, wTupleOf, wStrI, wIsi, wIn, wInT, wAppend, wPop, wInsert, wLM, wGet, dkey, startD, tru, dty, lq, dRevL, putD, CDiv, CMul, CPow, setc_same, setc_setc]
        simpa [cntL] using hB
  · rw [List.length_map, List.take_length]
    simp [-List.lookup_eq_none_iff, dSeq, dIf, dB, dOp, dVar, dC, dUn, dAsg, dCB, dCons, dNil, dgName, dgSub, dRet, dRetN, dDrop, dNext, dBreak, dCont, dNever, dIfE, dAnd, dOr, dNot, dTru, dAndV, dOrV, dNotV, dTup, dLst, nF, nC, dFld, dSetF, dCall, dMeth, dMake, dPar, dPar3, dgTup, dgCons, dgNil, dAug, dAugS2, dAugF, dBM, dBM0, dChain, dYes, dSl, dPart, dNoPart, wSl, wLt, wLe, wGt, wGe, wI, wI0, wAdd, wSub, wMod, wDiv, wPow, wMul, wEq, wEqB, wNe, wIsN, wIsB, wLen, wInt, wMax2, wMin2, wI2, wIxA, wSet, wGetC, wIp, wTupleOf, wStrI, wIsi, wIn, wInT, wAppend, wPop, wInsert, wLM, wGet, dkey, startD, tru, dty, lq, dRevL, putD, CDiv, CMul, CPow, setc_same, setc_setc]
    have := hq (ks.map fun z => (z, cntL ls z)) ⟨?_, fun p hp => ?_, by simp; omega⟩ (by simpa using kl)
    · unfold eC at this
      rw [List.map_map] at this
      exact this
    · rw [List.pairwise_map]; exact pw
    · obtain ⟨z, hz', rfl⟩ := List.mem_map.mp hp
      have hm := (mem z).mp hz'
      have b := hz z hm
      have c1 : 1 ≤ cntL ls z := by
        have : 0 < (ls.filter fun y => decide (y = z)).length := List.length_pos_of_mem (a := z) (List.mem_filter.mpr ⟨hm, by simp⟩)
        unfold cntL; omega
      have c2 : cntL ls z ≤ ls.length := by
        have := List.length_filter_le (fun y => decide (y = z)) ls
        unfold cntL; omega
      simp only
      omega
end LS
namespace LS
open PySem PySem.Spec PyProof.Rows L2 DL
theorem mkT_facts {l ls : List (Int × Int)} (c : CLo l) (so : SortedOf l ls) : Right (mkT ls) ∧ (mkT ls).n = 2 * l.length + 1 ∧ CL (mkT ls) l := by
  have len : ls.length = l.length + 1 := by rw [so.1.length_eq]; simp
  have mk0 := Mk_init c so.1 so.2
  obtain ⟨t, d, r, e, mk, n⟩ := itr_Mk mk0 (2 * l.length + 1) (by omega)
  have hT : mkT ls = t := by
    unfold mkT
    rw [len, show 2 * (l.length + 1) - 1 = 2 * l.length + 1 by omega, e]
  have num := mk.num
  have dn := mk.dn
  have hr : r = [] := List.eq_nil_of_length_eq_zero (by omega)
  have ct := cont_itr (ls0 := ls) (2 * l.length + 1)
  rw [e, hr] at ct
  rw [hT]
  refine ⟨mk.right (by omega) (by omega), n, c.asc, fun z v => ?_⟩
  have key : ∀ z v, 0 ≤ z → (Has t z v ↔ (v, z) ∈ ls) := fun z v h0 => by
    have := ct z v h0
    simpa using this
  constructor
  · intro h
    have o := c.ok _ h
    refine ⟨o.1, by simp only at o; omega, (key z v o.1).mpr (so.1.mem_iff.mpr (List.mem_append.mpr (.inl (List.mem_map.mpr ⟨(z, v), h, rfl⟩))))⟩
  · rintro ⟨h0, h1, h⟩
    rcases List.mem_append.mp (so.1.mem_iff.mp ((key z v h0).mp h)) with h | h
    · obtain ⟨p, hp, e⟩ := List.mem_map.mp h
      have e1 := congrArg Prod.fst e
      have e2 := congrArg Prod.snd e
      simp only [sw] at e1 e2
      rw [← e1, ← e2]; exact hp
    · rw [List.mem_singleton] at h
      exact absurd (congrArg Prod.snd h) h1
end LS
namespace LS
open PySem PySem.Spec PyProof.Rows L2 DL
theorem deqs_row (t : T) : ∀ l : List Nat, deqs (l.map (eJ t)) (l.map (eJ t)) = true
  | [] => rfl
  | i :: l => by simp [deqs, deq, eJ, deqs_row t l]
theorem shal_row' {t : T} : Shal 59 (eRow t) := shal_tup fun d hd => by
  obtain ⟨i, _, rfl⟩ := List.mem_map.mp hd
  exact shal_tup (by simp [shal_int])
theorem shal_rowT {t : T} : Shal 60 (eRow t) := shal_tup fun d hd => by
  obtain ⟨i, _, rfl⟩ := List.mem_map.mp hd
  exact shal_tup (by simp [shal_int])
theorem deq_row {t : T} : deq (eRow t) (eRow t) = true := by
  unfold eRow
  simp only [deq]
  exact deqs_row t _
theorem or_to {a b : DT} {ρ : EnvD} {cs : Cs} {Φ : Bool → Cs → Prop} {Ψ : EK} (R : Cs → Prop) (h1 : ∀ B : Bool → Cs → Prop, (∀ cs', R cs' → B false cs') → a ρ cs B Ψ) (h2 : ∀ cs', R cs' → b ρ cs' Φ Ψ) : dOr a b ρ cs Φ Ψ := h1 _ fun cs' r => by
  show (if false = true then _ else _)
  rw [if_neg (by simp)]; exact h2 cs' r
theorem shal_told {t : T} : Shal 60 (.tup [.str "none", eRow t]) := shal_tup fun d hd => by
  simp only [List.mem_cons, List.not_mem_nil, or_false] at hd
  rcases hd with rfl | rfl
  · exact shal_str (by decide +kernel)
  · exact shal_row'
theorem deq_told {t : T} : deq (.tup [.str "none", eRow t]) (.tup [.str "none", eRow t]) = true := by
  simp [deq, deqs, deq_row]
theorem shal_C {l : List (Int × Int)} : Shal 60 (eC l) := shal_tup fun d hd => by
  obtain ⟨p, _, rfl⟩ := List.mem_map.mp hd
  exact shal_tup (by simp [shal_int])
theorem deqs_C : ∀ l : List (Int × Int), deqs (l.map fun p => D.tup [.int p.1, .int p.2]) (l.map fun p => D.tup [.int p.1, .int p.2]) = true
  | [] => rfl
  | p :: l => by simp [deqs, deq, deqs_C l]
theorem deq_C {l : List (Int × Int)} : deq (eC l) (eC l) = true := deqs_C l
/-- what of made_right stands ahead of the sums -/
theorem made_right1 (cl : Str → Addr) {l : List (Int × Int)} {cs : Cs} {Z : DEnds} {rest : DS} (c : CLo l) (l2 : l.length ≤ 256) (h : ∀ cs' t, Ext cs cs' → Right t → t.n = 2 * l.length + 1 → CL t l → rest Z [some (eC l), some (eRow t), some (.int (pairSum t)), none, none, none, none, none, none] cs') :
    dSeq (dAsg (dTup (dCons (dCall (P__law_tuple cl) (dCons (dCall (P__law_made cl) (dCons (dVar 0) dNil)) dNil)) (dCons (dCall (P__law_least cl) (dCons (dVar 0) dNil)) dNil))) (dgTup 2 (dgCons (dgName 1) (dgCons (dgName 2) dgNil))))
      (dSeq (dIf (dOr (dB (dOp wNe (dCall (P__law_told cl) (dCons (dVar 0) dNil)) (dTup (dCons (dC (.str "none")) (dCons (dVar 1) dNil))))) (dOr (dB (dOp wNe (dCall (P_made_row cl) (dCons (dVar 0) dNil)) (dVar 1))) (dNot (dTru (dCall (P_row_right cl) (dCons (dVar 1) dNil)))))) (dRet (dC (.bl false))) dNext) rest) Z [some (eC l), none, none, none, none, none, none, none, none] cs := by
  refine cut (fun ρ' cs' => ∃ ls, ρ' = [some (eC l), some (eRow (mkT ls)), some (.int (pairSum (mkT ls))), none, none, none, none, none, none] ∧ SortedOf l ls ∧ Ext cs cs') (fun B hB => ?_) ?_
  · simp [-List.lookup_eq_none_iff, dSeq, dIf, dB, dOp, dVar, dC, dUn, dAsg, dCB, dCons, dNil, dgName, dgSub, dRet, dRetN, dDrop, dNext, dBreak, dCont, dNever, dIfE, dAnd, dOr, dNot, dTru, dAndV, dOrV, dNotV, dTup, dLst, nF, nC, dFld, dSetF, dCall, dMeth, dMake, dPar, dPar3, dgTup, dgCons, dgNil, dAug, dAugS2, dAugF, dBM, dBM0, dChain, dYes, dSl, dPart, dNoPart, wSl, wLt, wLe, wGt, wGe, wI, wI0, wAdd, wSub, wMod, wDiv, wPow, wMul, wEq, wEqB, wNe, wIsN, wIsB, wLen, wInt, wMax2, wMin2, wI2, wIxA, wSet, wGetC, wIp, wTupleOf, wStrI, wIsi, wIn, wInT, wAppend, wPop, wInsert, wLM, wGet, dkey, startD, tru, dty, lq, dRevL, putD, CDiv, CMul, CPow, setc_same, setc_setc]
    refine ⟨l, rfl, c, l2, fun ls so r n cs1 e1 => ⟨mkT ls, rfl, by omega, ?_⟩⟩
    obtain ⟨_, _, k⟩ := mkT_facts c so
    refine ⟨mkT ls, l, rfl, by omega, r.mid, by omega, CL_snd r k, ?_⟩
    simp [-List.lookup_eq_none_iff, dSeq, dIf, dB, dOp, dVar, dC, dUn, dAsg, dCB, dCons, dNil, dgName, dgSub, dRet, dRetN, dDrop, dNext, dBreak, dCont, dNever, dIfE, dAnd, dOr, dNot, dTru, dAndV, dOrV, dNotV, dTup, dLst, nF, nC, dFld, dSetF, dCall, dMeth, dMake, dPar, dPar3, dgTup, dgCons, dgNil, dAug, dAugS2, dAugF, dBM, dBM0, dChain, dYes, dSl, dPart, dNoPart, wSl, wLt, wLe, wGt, wGe, wI, wI0, wAdd, wSub, wMod, wDiv, wPow, wMul, wEq, wEqB, wNe, wIsN, wIsB, wLen, wInt, wMax2, wMin2, wI2, wIxA, wSet, wGetC, wIp, wTupleOf, wStrI, wIsi, wIn, wInT, wAppend, wPop, wInsert, wLM, wGet, dkey, startD, tru, dty, lq, dRevL, putD, CDiv, CMul, CPow, setc_same, setc_setc, at2_0, at2_1]
    exact hB _ _ ⟨ls, rfl, so, e1⟩
  rintro _ cs1 ⟨ls, rfl, so, e1⟩
  obtain ⟨r, n, k⟩ := mkT_facts c so
  have hf := (fault_clo c.len).mpr c
  show dIf _ _ _ _ _ _
  refine cutif (fun x cs' => x = false ∧ Ext cs cs') (fun B h2 => ?_) (fun _ h => by cases h.1) ?_
  · refine or_to (fun cs' => Ext cs cs') (fun B3 h3 => ?_) fun cs2 e2 => or_to (fun cs' => Ext cs cs') (fun B3 h3 => ?_) fun cs3 e3 => ?_
    · simp [-List.lookup_eq_none_iff, dSeq, dIf, dB, dOp, dVar, dC, dUn, dAsg, dCB, dCons, dNil, dgName, dgSub, dRet, dRetN, dDrop, dNext, dBreak, dCont, dNever, dIfE, dAnd, dOr, dNot, dTru, dAndV, dOrV, dNotV, dTup, dLst, nF, nC, dFld, dSetF, dCall, dMeth, dMake, dPar, dPar3, dgTup, dgCons, dgNil, dAug, dAugS2, dAugF, dBM, dBM0, dChain, dYes, dSl, dPart, dNoPart, wSl, wLt, wLe, wGt, wGe, wI, wI0, wAdd, wSub, wMod, wDiv, wPow, wMul, wEq, wEqB, wNe, wIsN, wIsB, wLen, wInt, wMax2, wMin2, wI2, wIxA, wSet, wGetC, wIp, wTupleOf, wStrI, wIsi, wIn, wInT, wAppend, wPop, wInsert, wLM, wGet, dkey, startD, tru, dty, lq, dRevL, putD, CDiv, CMul, CPow, setc_same, setc_setc]
      refine ⟨l, rfl, l2, fun cs2 e2 => ⟨fun _ ls' so' r' n' => ?_, fun C v h => by rw [hf] at h; cases h⟩⟩
      have := sorted_uniq c so' so
      subst this
      refine ⟨shal_told, shal_told, ?_⟩
      rw [deq_told]
      exact h3 _ (e1.trans e2)
    · simp [-List.lookup_eq_none_iff, dSeq, dIf, dB, dOp, dVar, dC, dUn, dAsg, dCB, dCons, dNil, dgName, dgSub, dRet, dRetN, dDrop, dNext, dBreak, dCont, dNever, dIfE, dAnd, dOr, dNot, dTru, dAndV, dOrV, dNotV, dTup, dLst, nF, nC, dFld, dSetF, dCall, dMeth, dMake, dPar, dPar3, dgTup, dgCons, dgNil, dAug, dAugS2, dAugF, dBM, dBM0, dChain, dYes, dSl, dPart, dNoPart, wSl, wLt, wLe, wGt, wGe, wI, wI0, wAdd, wSub, wMod, wDiv, wPow, wMul, wEq, wEqB, wNe, wIsN, wIsB, wLen, wInt, wMax2, wMin2, wI2, wIxA, wSet, wGetC, wIp, wTupleOf, wStrI, wIsi, wIn, wInT, wAppend, wPop, wInsert, wLM, wGet, dkey, startD, tru, dty, lq, dRevL, putD, CDiv, CMul, CPow, setc_same, setc_setc]
      refine ⟨l, rfl, l2, fun cs3 e3 => ⟨fun _ ls' so' r' n' => ?_, fun C v h => by rw [hf] at h; cases h⟩⟩
      have := sorted_uniq c so' so
      subst this
      refine ⟨shal_rowT, shal_rowT, ?_⟩
      rw [deq_row]
      exact h3 _ (e2.trans e3)
    · simp [-List.lookup_eq_none_iff, dSeq, dIf, dB, dOp, dVar, dC, dUn, dAsg, dCB, dCons, dNil, dgName, dgSub, dRet, dRetN, dDrop, dNext, dBreak, dCont, dNever, dIfE, dAnd, dOr, dNot, dTru, dAndV, dOrV, dNotV, dTup, dLst, nF, nC, dFld, dSetF, dCall, dMeth, dMake, dPar, dPar3, dgTup, dgCons, dgNil, dAug, dAugS2, dAugF, dBM, dBM0, dChain, dYes, dSl, dPart, dNoPart, wSl, wLt, wLe, wGt, wGe, wI, wI0, wAdd, wSub, wMod, wDiv, wPow, wMul, wEq, wEqB, wNe, wIsN, wIsB, wLen, wInt, wMax2, wMin2, wI2, wIxA, wSet, wGetC, wIp, wTupleOf, wStrI, wIsi, wIn, wInT, wAppend, wPop, wInsert, wLM, wGet, dkey, startD, tru, dty, lq, dRevL, putD, CDiv, CMul, CPow, setc_same, setc_setc]
      refine ⟨mkT ls, rfl, r, by omega, fun cs4 e4 => ?_⟩
      simp [-List.lookup_eq_none_iff, dSeq, dIf, dB, dOp, dVar, dC, dUn, dAsg, dCB, dCons, dNil, dgName, dgSub, dRet, dRetN, dDrop, dNext, dBreak, dCont, dNever, dIfE, dAnd, dOr, dNot, dTru, dAndV, dOrV, dNotV, dTup, dLst, nF, nC, dFld, dSetF, dCall, dMeth, dMake, dPar, dPar3, dgTup, dgCons, dgNil, dAug, dAugS2, dAugF, dBM, dBM0, dChain, dYes, dSl, dPart, dNoPart, wSl, wLt, wLe, wGt, wGe, wI, wI0, wAdd, wSub, wMod, wDiv, wPow, wMul, wEq, wEqB, wNe, wIsN, wIsB, wLen, wInt, wMax2, wMin2, wI2, wIxA, wSet, wGetC, wIp, wTupleOf, wStrI, wIsi, wIn, wInT, wAppend, wPop, wInsert, wLM, wGet, dkey, startD, tru, dty, lq, dRevL, putD, CDiv, CMul, CPow, setc_same, setc_setc]
      exact h2 _ _ ⟨rfl, e3.trans e4⟩
  · rintro cs4 ⟨_, e4⟩
    simp [-List.lookup_eq_none_iff, dSeq, dIf, dB, dOp, dVar, dC, dUn, dAsg, dCB, dCons, dNil, dgName, dgSub, dRet, dRetN, dDrop, dNext, dBreak, dCont, dNever, dIfE, dAnd, dOr, dNot, dTru, dAndV, dOrV, dNotV, dTup, dLst, nF, nC, dFld, dSetF, dCall, dMeth, dMake, dPar, dPar3, dgTup, dgCons, dgNil, dAug, dAugS2, dAugF, dBM, dBM0, dChain, dYes, dSl, dPart, dNoPart, wSl, wLt, wLe, wGt, wGe, wI, wI0, wAdd, wSub, wMod, wDiv, wPow, wMul, wEq, wEqB, wNe, wIsN, wIsB, wLen, wInt, wMax2, wMin2, wI2, wIxA, wSet, wGetC, wIp, wTupleOf, wStrI, wIsi, wIn, wInT, wAppend, wPop, wInsert, wLM, wGet, dkey, startD, tru, dty, lq, dRevL, putD, CDiv, CMul, CPow, setc_same, setc_setc]
    exact h cs4 (mkT ls) e4 r n k
end LS
namespace LS
open PySem PySem.Spec PyProof.Rows L2 DL
/-- sums of what hangs beneath each place, up to the j-th -/
def hsum (t : T) : Nat → Nat → Int
  | 0, _ => 0
  | j + 1, x => hsum t j x + (if t.u j = x then t.c j else 0)
theorem hsum_pair {t : T} (h : Shape t) {i : Nat} (ev : i % 2 = 0) (hi : i + 1 < t.n) : ∀ j, j < t.n → hsum t j (t.u i).toNat = (if i < j then t.c i else 0) + (if i + 1 < j then t.c (i + 1) else 0)
  | 0, _ => by simp [hsum]
  | j + 1, hj => by
    obtain ⟨u1, u2, _⟩ := h.up i ev hi
    have hp := h.pair i ev hi
    show hsum t j (t.u i).toNat + (if t.u j = ((t.u i).toNat : Int) then t.c j else 0) = _
    rw [hsum_pair h ev hi j (by omega)]
    by_cases e : j = i
    · subst e
      rw [if_neg (by omega : ¬ j < j), if_neg (by omega : ¬ j + 1 < j), if_pos (by omega : t.u j = ((t.u j).toNat : Int)), if_pos (by omega : j < j + 1), if_neg (by omega : ¬ j + 1 < j + 1)]
      omega
    · by_cases e1 : j = i + 1
      · subst e1
        rw [if_pos (by omega : t.u (i + 1) = ((t.u i).toNat : Int)), if_pos (by omega : i < i + 1), if_neg (by omega : ¬ i + 1 < i + 1), if_pos (by omega : i < i + 1 + 1), if_pos (by omega : i + 1 < i + 1 + 1)]
        omega
      · have ne : ¬ t.u j = ((t.u i).toNat : Int) := fun q => by
          have hj' : j + 1 < t.n := by omega
          by_cases ej : j % 2 = 0
          · exact e (h.inj j i ej ev hj' hi (by omega))
          · have hjm : (j - 1) % 2 = 0 := by omega
            have := h.pair (j - 1) hjm (by omega)
            rw [show j - 1 + 1 = j by omega] at this
            have := h.inj (j - 1) i hjm ev (by omega) hi (by omega)
            omega
        rw [if_neg ne]
        by_cases g : i < j
        · have g1 : i + 1 < j := by omega
          rw [if_pos g, if_pos g1, if_pos (by omega : i < j + 1), if_pos (by omega : i + 1 < j + 1)]
          omega
        · rw [if_neg g, if_neg (by omega : ¬ i + 1 < j), if_neg (by omega : ¬ i < j + 1), if_neg (by omega : ¬ i + 1 < j + 1)]
          omega
theorem hsum_all {t : T} (r : Right t) {x : Nat} (hx : x < t.n) (hk : t.k x = -1) : hsum t (t.n - 1) x = t.c x := by
  obtain ⟨i, ev, hi, hu⟩ := r.mid.ons x hx hk
  have e : x = (t.u i).toNat := by omega
  rw [e, hsum_pair r.mid.toShape ev hi (t.n - 1) (by omega)]
  have odd := r.mid.toShape.odd
  rw [if_pos (by omega : i < t.n - 1), if_pos (by omega : i + 1 < t.n - 1)]
  have := r.mid.sums i ev hi
  obtain ⟨u1, _, _⟩ := r.mid.up i ev hi
  rw [if_neg (by omega)] at this
  omega
end LS
namespace LS
open PySem PySem.Spec PyProof.Rows L2 DL
theorem rep_tab0 {n : Nat} : List.replicate n (D.int 0) = tab n (fun _ => 0) := by
  unfold tab
  apply List.ext_getElem
  · simp
  · intro i h1 h2; simp
theorem up_nat {t : T} (h : Shape t) {i : Nat} (hi : i + 1 < t.n) : ∃ u : Nat, t.u i = u ∧ u < t.n := by
  by_cases ev : i % 2 = 0
  · obtain ⟨a, b, _⟩ := h.up i ev hi
    exact ⟨(t.u i).toNat, by omega, by omega⟩
  · have := h.pair (i - 1) (by omega) (by omega)
    rw [show i - 1 + 1 = i by omega] at this
    obtain ⟨a, b, _⟩ := h.up (i - 1) (by omega) (by omega)
    exact ⟨(t.u i).toNat, by omega, by omega⟩
theorem eJ_at {t : T} {i : Nat} (hi : i < t.n) : atI ((List.range t.n).map (eJ t)) (i : Int) = some (eJ t i) := atI_nat (by rw [List.getElem?_map, List.getElem?_range hi]; rfl)
theorem e3_0 {a b c : D} : atI [a, b, c] 0 = some a := rfl
theorem e3_1 {a b c : D} : atI [a, b, c] 1 = some b := rfl
theorem h__law_made_right (cl : Str → Addr) : DOk (P__law_made_right cl) (w__law_made_right cl) 9 := by
  rintro ds cs Φ _ ⟨l, rfl, c, l2, h⟩
  show dSeq _ (dSeq _ _) _ _ _
  refine made_right1 cl c l2 fun cs1 t e1 r n k => ?_
  have pm := CL_snd r k
  have n1 : t.n ≤ 513 := by omega
  have odd := r.mid.toShape.odd
  show dIf _ _ _ _ _ _
  refine cutif (fun x cs' => x = false ∧ Ext cs cs') (fun B h2 => ?_) (fun _ h => by cases h.1) ?_
  · refine or_to (fun cs' => Ext cs cs') (fun B3 h3 => ?_) fun cs2 e2 => or_to (fun cs' => Ext cs cs') (fun B3 h3 => ?_) fun cs3 e3 => ?_
    · simp [-List.lookup_eq_none_iff, dSeq, dIf, dB, dOp, dVar, dC, dUn, dAsg, dCB, dCons, dNil, dgName, dgSub, dRet, dRetN, dDrop, dNext, dBreak, dCont, dNever, dIfE, dAnd, dOr, dNot, dTru, dAndV, dOrV, dNotV, dTup, dLst, nF, nC, dFld, dSetF, dCall, dMeth, dMake, dPar, dPar3, dgTup, dgCons, dgNil, dAug, dAugS2, dAugF, dBM, dBM0, dChain, dYes, dSl, dPart, dNoPart, wSl, wLt, wLe, wGt, wGe, wI, wI0, wAdd, wSub, wMod, wDiv, wPow, wMul, wEq, wEqB, wNe, wIsN, wIsB, wLen, wInt, wMax2, wMin2, wI2, wIxA, wSet, wGetC, wIp, wTupleOf, wStrI, wIsi, wIn, wInT, wAppend, wPop, wInsert, wLM, wGet, dkey, startD, tru, dty, lq, dRevL, putD, CDiv, CMul, CPow, setc_same, setc_setc]
      refine ⟨t, rfl, r, n1, fun l' cs2 k' e2 => ?_⟩
      have := CL_uniq k' k
      subst this
      refine ⟨shal_C, shal_C, ?_⟩
      rw [deq_C]
      exact h3 _ (e1.trans e2)
    · simp [-List.lookup_eq_none_iff, dSeq, dIf, dB, dOp, dVar, dC, dUn, dAsg, dCB, dCons, dNil, dgName, dgSub, dRet, dRetN, dDrop, dNext, dBreak, dCont, dNever, dIfE, dAnd, dOr, dNot, dTru, dAndV, dOrV, dNotV, dTup, dLst, nF, nC, dFld, dSetF, dCall, dMeth, dMake, dPar, dPar3, dgTup, dgCons, dgNil, dAug, dAugS2, dAugF, dBM, dBM0, dChain, dYes, dSl, dPart, dNoPart, wSl, wLt, wLe, wGt, wGe, wI, wI0, wAdd, wSub, wMod, wDiv, wPow, wMul, wEq, wEqB, wNe, wIsN, wIsB, wLen, wInt, wMax2, wMin2, wI2, wIxA, wSet, wGetC, wIp, wTupleOf, wStrI, wIsi, wIn, wInT, wAppend, wPop, wInsert, wLM, wGet, dkey, startD, tru, dty, lq, dRevL, putD, CDiv, CMul, CPow, setc_same, setc_setc]
      refine ⟨t, rfl, r, n1, fun cs3 e3 => ?_⟩
      simp only [shal_int, deq, decide_true, Bool.not_true]
      first
        | exact ⟨trivial, trivial, h3 _ (e2.trans e3)⟩
        | exact h3 _ (e2.trans e3)
    · simp [-List.lookup_eq_none_iff, dSeq, dIf, dB, dOp, dVar, dC, dUn, dAsg, dCB, dCons, dNil, dgName, dgSub, dRet, dRetN, dDrop, dNext, dBreak, dCont, dNever, dIfE, dAnd, dOr, dNot, dTru, dAndV, dOrV, dNotV, dTup, dLst, nF, nC, dFld, dSetF, dCall, dMeth, dMake, dPar, dPar3, dgTup, dgCons, dgNil, dAug, dAugS2, dAugF, dBM, dBM0, dChain, dYes, dSl, dPart, dNoPart, wSl, wLt, wLe, wGt, wGe, wI, wI0, wAdd, wSub, wMod, wDiv, wPow, wMul, wEq, wEqB, wNe, wIsN, wIsB, wLen, wInt, wMax2, wMin2, wI2, wIxA, wSet, wGetC, wIp, wTupleOf, wStrI, wIsi, wIn, wInT, wAppend, wPop, wInsert, wLM, wGet, dkey, startD, tru, dty, lq, dRevL, putD, CDiv, CMul, CPow, setc_same, setc_setc]
      refine ⟨t, l, rfl, c, r.mid, by omega, (List.perm_append_comm.trans (List.Perm.refl _)).trans pm, fun cs4 e4 => ?_⟩
      simp only [shal_int, deq, decide_true, Bool.not_true]
      first
        | exact ⟨trivial, trivial, h2 _ _ ⟨rfl, e3.trans e4⟩⟩
        | exact h2 _ _ ⟨rfl, e3.trans e4⟩
  rintro cs5 ⟨_, e5⟩
  simp only [dNext]
  refine cut (fun ρ' cs' => ∃ s, ρ' = [some (eC l), some (eRow t), some (.int (pairSum t)), some (.lst (tab t.n t.u)), some (.cell s), none, none, none, none] ∧ cs' s = some (.lst (tab t.n fun _ => 0)) ∧ cs s = none ∧ Ext cs cs') (fun B hB => ?_) ?_
  · simp [-List.lookup_eq_none_iff, dSeq, dIf, dB, dOp, dVar, dC, dUn, dAsg, dCB, dCons, dNil, dgName, dgSub, dRet, dRetN, dDrop, dNext, dBreak, dCont, dNever, dIfE, dAnd, dOr, dNot, dTru, dAndV, dOrV, dNotV, dTup, dLst, nF, nC, dFld, dSetF, dCall, dMeth, dMake, dPar, dPar3, dgTup, dgCons, dgNil, dAug, dAugS2, dAugF, dBM, dBM0, dChain, dYes, dSl, dPart, dNoPart, wSl, wLt, wLe, wGt, wGe, wI, wI0, wAdd, wSub, wMod, wDiv, wPow, wMul, wEq, wEqB, wNe, wIsN, wIsB, wLen, wInt, wMax2, wMin2, wI2, wIxA, wSet, wGetC, wIp, wTupleOf, wStrI, wIsi, wIn, wInT, wAppend, wPop, wInsert, wLM, wGet, dkey, startD, tru, dty, lq, dRevL, putD, CDiv, CMul, CPow, setc_same, setc_setc, dLc_eq, diSeq, eRow]
    refine lc_row (t := t) (f := fun i => D.int (t.u i)) trivial (by omega) (fun i hi B1 hB1 => by simp [-List.lookup_eq_none_iff, dSeq, dIf, dB, dOp, dVar, dC, dUn, dAsg, dCB, dCons, dNil, dgName, dgSub, dRet, dRetN, dDrop, dNext, dBreak, dCont, dNever, dIfE, dAnd, dOr, dNot, dTru, dAndV, dOrV, dNotV, dTup, dLst, nF, nC, dFld, dSetF, dCall, dMeth, dMake, dPar, dPar3, dgTup, dgCons, dgNil, dAug, dAugS2, dAugF, dBM, dBM0, dChain, dYes, dSl, dPart, dNoPart, wSl, wLt, wLe, wGt, wGe, wI, wI0, wAdd, wSub, wMod, wDiv, wPow, wMul, wEq, wEqB, wNe, wIsN, wIsB, wLen, wInt, wMax2, wMin2, wI2, wIxA, wSet, wGetC, wIp, wTupleOf, wStrI, wIsi, wIn, wInT, wAppend, wPop, wInsert, wLM, wGet, dkey, startD, tru, dty, lq, dRevL, putD, CDiv, CMul, CPow, setc_same, setc_setc, wipeD, eJ]; exact hB1) ?_
    simp [-List.lookup_eq_none_iff, dSeq, dIf, dB, dOp, dVar, dC, dUn, dAsg, dCB, dCons, dNil, dgName, dgSub, dRet, dRetN, dDrop, dNext, dBreak, dCont, dNever, dIfE, dAnd, dOr, dNot, dTru, dAndV, dOrV, dNotV, dTup, dLst, nF, nC, dFld, dSetF, dCall, dMeth, dMake, dPar, dPar3, dgTup, dgCons, dgNil, dAug, dAugS2, dAugF, dBM, dBM0, dChain, dYes, dSl, dPart, dNoPart, wSl, wLt, wLe, wGt, wGe, wI, wI0, wAdd, wSub, wMod, wDiv, wPow, wMul, wEq, wEqB, wNe, wIsN, wIsB, wLen, wInt, wMax2, wMin2, wI2, wIxA, wSet, wGetC, wIp, wTupleOf, wStrI, wIsi, wIn, wInT, wAppend, wPop, wInsert, wLM, wGet, dkey, startD, tru, dty, lq, dRevL, putD, CDiv, CMul, CPow, setc_same, setc_setc]
    refine ⟨by omega, by omega, fun p hp => ?_⟩
    rw [rep_tab0]
    have fs : cs p = none := by
      cases q : cs p with
      | none => rfl
      | some c => rw [e5 p c q] at hp; cases hp
    exact hB _ _ ⟨p, rfl, setc_same, fs, fun a c ha => by rw [setc_ne (fun z => by rw [z, fs] at ha; cases ha)]; exact e5 a c ha⟩
  rintro _ cs6 ⟨s, rfl, hs, fs, e6⟩
  refine cut (fun ρ' cs' => ∃ b, ρ' = [some (eC l), some (eRow t), some (.int (pairSum t)), some (.lst (tab t.n t.u)), some (.cell s), b, none, none, none] ∧ cs' s = some (.lst (tab t.n (hsum t (t.n - 1)))) ∧ Ext cs cs') (fun B hB => ?_) ?_
  · rw [dFor_eq]
    simp [-List.lookup_eq_none_iff, dSeq, dIf, dB, dOp, dVar, dC, dUn, dAsg, dCB, dCons, dNil, dgName, dgSub, dRet, dRetN, dDrop, dNext, dBreak, dCont, dNever, dIfE, dAnd, dOr, dNot, dTru, dAndV, dOrV, dNotV, dTup, dLst, nF, nC, dFld, dSetF, dCall, dMeth, dMake, dPar, dPar3, dgTup, dgCons, dgNil, dAug, dAugS2, dAugF, dBM, dBM0, dChain, dYes, dSl, dPart, dNoPart, wSl, wLt, wLe, wGt, wGe, wI, wI0, wAdd, wSub, wMod, wDiv, wPow, wMul, wEq, wEqB, wNe, wIsN, wIsB, wLen, wInt, wMax2, wMin2, wI2, wIxA, wSet, wGetC, wIp, wTupleOf, wStrI, wIsi, wIn, wInT, wAppend, wPop, wInsert, wLM, wGet, dkey, startD, tru, dty, lq, dRevL, putD, CDiv, CMul, CPow, setc_same, setc_setc, diRng1, eRow]
    refine ⟨by omega, by omega, ?_⟩
    refine for_gen (fun i ρ' cs' => ∃ b, ρ' = [some (eC l), some (eRow t), some (.int (pairSum t)), some (.lst (tab t.n t.u)), some (.cell s), b, none, none, none] ∧ cs' s = some (.lst (tab t.n (hsum t i))) ∧ Ext cs cs') ⟨_, rfl, hs, e6⟩ (fun _ _ _ _ => trivial) ?_ (fun ρ2 cs2 q => hB _ _ (by simpa [show ((t.n : Int) - 1).toNat = t.n - 1 by omega, rng_length] using q))
    rintro i _ cs2 d ⟨b, rfl, hs2, e2⟩ hd C hC
    obtain ⟨hi, rfl⟩ := rng_get hd
    rw [Int.zero_add]
    obtain ⟨u, eu, hu⟩ := up_nat r.mid.toShape (i := i) (by omega)
    have hi' : i < t.n := by omega
    simp [-List.lookup_eq_none_iff, dSeq, dIf, dB, dOp, dVar, dC, dUn, dAsg, dCB, dCons, dNil, dgName, dgSub, dRet, dRetN, dDrop, dNext, dBreak, dCont, dNever, dIfE, dAnd, dOr, dNot, dTru, dAndV, dOrV, dNotV, dTup, dLst, nF, nC, dFld, dSetF, dCall, dMeth, dMake, dPar, dPar3, dgTup, dgCons, dgNil, dAug, dAugS2, dAugF, dBM, dBM0, dChain, dYes, dSl, dPart, dNoPart, wSl, wLt, wLe, wGt, wGe, wI, wI0, wAdd, wSub, wMod, wDiv, wPow, wMul, wEq, wEqB, wNe, wIsN, wIsB, wLen, wInt, wMax2, wMin2, wI2, wIxA, wSet, wGetC, wIp, wTupleOf, wStrI, wIsi, wIn, wInT, wAppend, wPop, wInsert, wLM, wGet, dkey, startD, tru, dty, lq, dRevL, putD, CDiv, CMul, CPow, setc_same, setc_setc, hs2, tab_at hi', eu, tab_at hu, eRow, eJ_at hi', eJ, e3_1, tab_length, ixN_natL hu, tab_set]
    refine hC _ _ ⟨_, rfl, ?_, fun a c ha => ?_⟩
    · rw [setc_same]
      refine congrArg (fun x => some (Ct.lst x)) (tab_congr fun x hx => ?_)
      show _ = hsum t i x + (if t.u i = x then t.c i else 0)
      by_cases q : x = u
      · subst q
        rw [if_pos rfl, if_pos eu]
      · rw [if_neg q, if_neg (by omega)]; omega
    · have : a ≠ s := fun z => by rw [z, fs] at ha; cases ha
      rw [setc_ne this]; exact e2 a c ha
  rintro _ cs7 ⟨b, rfl, hs7, e7⟩
  simp [-List.lookup_eq_none_iff, dSeq, dIf, dB, dOp, dVar, dC, dUn, dAsg, dCB, dCons, dNil, dgName, dgSub, dRet, dRetN, dDrop, dNext, dBreak, dCont, dNever, dIfE, dAnd, dOr, dNot, dTru, dAndV, dOrV, dNotV, dTup, dLst, nF, nC, dFld, dSetF, dCall, dMeth, dMake, dPar, dPar3, dgTup, dgCons, dgNil, dAug, dAugS2, dAugF, dBM, dBM0, dChain, dYes, dSl, dPart, dNoPart, wSl, wLt, wLe, wGt, wGe, wI, wI0, wAdd, wSub, wMod, wDiv, wPow, wMul, wEq, wEqB, wNe, wIsN, wIsB, wLen, wInt, wMax2, wMin2, wI2, wIxA, wSet, wGetC, wIp, wTupleOf, wStrI, wIsi, wIn, wInT, wAppend, wPop, wInsert, wLM, wGet, dkey, startD, tru, dty, lq, dRevL, putD, CDiv, CMul, CPow, setc_same, setc_setc, dLc_eq, diRng1, eRow]
  refine ⟨by omega, ?_⟩
  refine lc_gen (keep := fun _ => True) (fun _ => []) trivial (by rw [rng_length]; omega) rfl (fun i x hx B hB => ?_) ?_
  · obtain ⟨hi, rfl⟩ := rng_get hx
    rw [Int.zero_add]
    have hi' : i < t.n := by omega
    simp [-List.lookup_eq_none_iff, dSeq, dIf, dB, dOp, dVar, dC, dUn, dAsg, dCB, dCons, dNil, dgName, dgSub, dRet, dRetN, dDrop, dNext, dBreak, dCont, dNever, dIfE, dAnd, dOr, dNot, dTru, dAndV, dOrV, dNotV, dTup, dLst, nF, nC, dFld, dSetF, dCall, dMeth, dMake, dPar, dPar3, dgTup, dgCons, dgNil, dAug, dAugS2, dAugF, dBM, dBM0, dChain, dYes, dSl, dPart, dNoPart, wSl, wLt, wLe, wGt, wGe, wI, wI0, wAdd, wSub, wMod, wDiv, wPow, wMul, wEq, wEqB, wNe, wIsN, wIsB, wLen, wInt, wMax2, wMin2, wI2, wIxA, wSet, wGetC, wIp, wTupleOf, wStrI, wIsi, wIn, wInT, wAppend, wPop, wInsert, wLM, wGet, dkey, startD, tru, dty, lq, dRevL, putD, CDiv, CMul, CPow, setc_same, setc_setc, wipeD, eJ_at hi', eJ, e3_0, e3_1, hs7, tab_at hi']
    by_cases q : t.k i = -1
    · simpa [q, hsum_all r hi' q] using hB
    · simpa [q] using hB
  · simp [-List.lookup_eq_none_iff, dSeq, dIf, dB, dOp, dVar, dC, dUn, dAsg, dCB, dCons, dNil, dgName, dgSub, dRet, dRetN, dDrop, dNext, dBreak, dCont, dNever, dIfE, dAnd, dOr, dNot, dTru, dAndV, dOrV, dNotV, dTup, dLst, nF, nC, dFld, dSetF, dCall, dMeth, dMake, dPar, dPar3, dgTup, dgCons, dgNil, dAug, dAugS2, dAugF, dBM, dBM0, dChain, dYes, dSl, dPart, dNoPart, wSl, wLt, wLe, wGt, wGe, wI, wI0, wAdd, wSub, wMod, wDiv, wPow, wMul, wEq, wEqB, wNe, wIsN, wIsB, wLen, wInt, wMax2, wMin2, wI2, wIxA, wSet, wGetC, wIp, wTupleOf, wStrI, wIsi, wIn, wInT, wAppend, wPop, wInsert, wLM, wGet, dkey, startD, tru, dty, lq, dRevL, putD, CDiv, CMul, CPow, setc_same, setc_setc]
    exact ⟨shal_lst (by simp), h _ e7⟩
end LS
namespace LS
open PySem PySem.Spec PyProof.Rows L2 DL
theorem Src.off {cs : Cs} {a p : Addr} (s : Src cs a) (h : cs p = none) : a ≠ p := fun e => by
  obtain ⟨x, y, _, _, _, q⟩ := s
  rw [e, h] at q; cases q
theorem Src.put {cs : Cs} {a p : Addr} {c : Ct} (s : Src cs a) (h : a ≠ p) : Src (setc cs p c) a := by
  obtain ⟨x, y, h0, h1, h2, q⟩ := s
  exact ⟨x, y, h0, h1, h2, by rw [setc_ne h]; exact q⟩
theorem kp_put {cs cs' : Cs} {a p : Addr} {c : Ct} (k : Kp a cs cs') (h : cs p = none) : Kp a cs (setc cs' p c) := fun b x hb e => by
  rw [setc_ne fun z => by rw [z, h] at e; cases e]; exact k b x hb e
theorem kp_only {cs cs' cs'' : Cs} {a : Addr} (k : Kp a cs cs') (o : Only a cs' cs'') : Kp a cs cs'' := fun b x hb e => by rw [o b hb]; exact k b x hb e
theorem kp_fresh {cs cs' : Cs} {a p : Addr} (k : Kp a cs cs') (s : Src cs' a) (h : cs' p = none) : cs p = none := by
  cases e : cs p with
  | none => rfl
  | some c => rw [k p c (s.off h).symm e] at h; cases h
theorem Src.ext {cs cs' : Cs} {a : Addr} (s : Src cs a) (e : Ext cs cs') : Src cs' a := by
  obtain ⟨x, y, h0, h1, h2, q⟩ := s
  exact ⟨x, y, h0, h1, h2, e _ _ q⟩
def lz : Int → List (Int × Int) → Int
  | b, [] => b
  | _, p :: r => lz p.1 r
theorem fault_app : ∀ (l1 r : List (Int × Int)) (b : Int) (i : Nat), fault b i l1 = none → fault b i (l1 ++ r) = fault (lz b l1) (i + l1.length) r
  | [], r, b, i, _ => by simp [lz]
  | (z, v) :: l1, r, b, i, h => by
    simp only [fault] at h
    show (if ¬ (0 ≤ z ∧ z < 256) then _ else if z ≤ b ∨ ¬ (1 ≤ v ∧ v ≤ 1000000) then _ else fault z (i + 1) (l1 ++ r)) = _
    by_cases h1 : ¬ (0 ≤ z ∧ z < 256)
    · rw [if_pos h1] at h; cases h
    · rw [if_neg h1] at h ⊢
      by_cases h2 : z ≤ b ∨ ¬ (1 ≤ v ∧ v ≤ 1000000)
      · rw [if_pos h2] at h; cases h
      · rw [if_neg h2] at h ⊢
        rw [fault_app l1 r z (i + 1) h]
        show fault (lz z l1) _ _ = fault (lz z l1) _ _
        rw [List.length_cons, show i + 1 + l1.length = i + (l1.length + 1) by omega]
theorem fault_pre : ∀ (l1 r : List (Int × Int)) (b : Int) (i : Nat), fault b i (l1 ++ r) = none → fault b i l1 = none
  | [], r, b, i, _ => rfl
  | (z, v) :: l1, r, b, i, h => by
    rw [List.cons_append] at h
    simp only [fault] at h ⊢
    by_cases h1 : ¬ (0 ≤ z ∧ z < 256)
    · rw [if_pos h1] at h; cases h
    · rw [if_neg h1] at h ⊢
      by_cases h2 : z ≤ b ∨ ¬ (1 ≤ v ∧ v ≤ 1000000)
      · rw [if_pos h2] at h; cases h
      · rw [if_neg h2] at h ⊢
        exact fault_pre l1 r z (i + 1) h
theorem lz_snoc : ∀ (l : List (Int × Int)) (b : Int) (p : Int × Int), lz b (l ++ [p]) = p.1
  | [], _, _ => rfl
  | q :: l, _, p => lz_snoc l q.1 p
abbrev pD (p : Int × Int) : D := .tup [.int p.1, .int p.2]
theorem eC_map (l : List (Int × Int)) : eC l = .tup (l.map pD) := rfl
/-- the first places of a changed row -/
structure Alt (l l' : List (Int × Int)) (x : Nat) : Prop where
  len : l'.length = l.length
  pre : l'.take (x + 1) = l.take (x + 1)
theorem alt_split {l l' : List (Int × Int)} {x : Nat} (h : Alt l l' x) (hx : x < l.length) : ∃ l1 l2, l' = l1 ++ l[x] :: l2 ∧ l1.length = x ∧ ∃ l3, l = l1 ++ l[x] :: l3 := by
  refine ⟨l.take x, l'.drop (x + 1), ?_, by simp; omega, l.drop (x + 1), ?_⟩
  · have e := List.take_append_drop (x + 1) l'
    rw [h.pre, List.take_succ_eq_append_getElem hx] at e
    rw [List.append_assoc] at e
    exact e.symm
  · have e := List.take_append_drop (x + 1) l
    rw [List.take_succ_eq_append_getElem hx] at e
    rw [List.append_assoc] at e
    exact e.symm
theorem set_mid {α : Type} {l1 l2 : List α} {a b : α} : (l1 ++ a :: l2).set l1.length b = l1 ++ b :: l2 := by
  rw [List.set_append_right _ _ (Nat.le_refl _)]; simp
theorem faultA {l1 l2 : List (Int × Int)} {z v : Int} (h : fault (-1) 0 l1 = none) (hz : ¬ (0 ≤ z ∧ z < 256)) : fault (-1) 0 (l1 ++ (z, v) :: l2) = some (("BadLetter" : Str), z) := by
  rw [fault_app _ _ _ _ h]
  simp only [fault]
  rw [if_pos hz]
theorem faultB {l1 l2 : List (Int × Int)} {z v : Int} (h : fault (-1) 0 l1 = none) (hz : 0 ≤ z ∧ z < 256) (hv : z ≤ lz (-1) l1 ∨ ¬ (1 ≤ v ∧ v ≤ 1000000)) : fault (-1) 0 (l1 ++ (z, v) :: l2) = some (("BadCount" : Str), (l1.length : Int)) := by
  rw [fault_app _ _ _ _ h]
  simp only [fault]
  rw [if_neg (not_not_intro hz), if_pos hv]
  simp
theorem deq_pairS {s : Str} {v : Int} : deq (.tup [.str s, .int v]) (.tup [.str s, .int v]) = true := by
  simp [deq, deqs]
theorem shal_pS {s : Str} {v : Int} (h : Shal 59 (.str s)) : Shal 60 (.tup [.str s, .int v]) := shal_tup fun d hd => by
  simp only [List.mem_cons, List.not_mem_nil, or_false] at hd
  rcases hd with rfl | rfl
  · exact h
  · exact shal_int
/-- the told fault is the wanted one -/
theorem told_is {cl : Str → Addr} {l : List (Int × Int)} {cs : Cs} {C s : Str} {v : Int} {ρ : EnvD} {i : Nat} {p : Addr} {we : DE} {Z : DEnds} (hv : ρ[i]? = some (some (.cell p))) (hp : cs p = some (.lst (l.map pD))) (n1 : l.length ≤ 256) (hf : fault (-1) 0 l = some (C, v)) (hs : (if C = ("BadLetter" : Str) then ("letter" : Str) else "count") = s) (sh : Shal 59 (.str s))
    (hw : ∀ cs' (B : D → Cs → Prop), Ext cs cs' → B (.int v) cs' → we ρ cs' B Z.ex) (h : ∀ cs', Ext cs cs' → Z.rt (.bl true) cs') :
    dRet (dOp wEq (dCall (P__law_told cl) (dCons (dCB wTupleOf (dCons (dVar i) dNil)) dNil)) (dTup (dCons (dC (.str s)) (dCons we dNil)))) Z ρ cs := by
  simp [-List.lookup_eq_none_iff, dSeq, dIf, dB, dOp, dVar, dC, dUn, dAsg, dCB, dCons, dNil, dgName, dgSub, dRet, dRetN, dDrop, dNext, dBreak, dCont, dNever, dIfE, dAnd, dOr, dNot, dTru, dAndV, dOrV, dNotV, dTup, dLst, nF, nC, dFld, dSetF, dCall, dMeth, dMake, dPar, dPar3, dgTup, dgCons, dgNil, dAug, dAugS2, dAugF, dBM, dBM0, dChain, dYes, dSl, dPart, dNoPart, wSl, wLt, wLe, wGt, wGe, wI, wI0, wAdd, wSub, wMod, wDiv, wPow, wMul, wEq, wEqB, wNe, wIsN, wIsB, wLen, wInt, wMax2, wMin2, wI2, wIxA, wSet, wGetC, wIp, wTupleOf, wStrI, wIsi, wIn, wInT, wAppend, wPop, wInsert, wLM, wGet, dkey, startD, tru, dty, lq, dRevL, putD, CDiv, CMul, CPow, setc_same, setc_setc, hv, hp]
  refine ⟨l, rfl, n1, fun cs' e => ?_⟩
  unfold Told
  refine ⟨fun hn => (by rw [hf] at hn; cases hn), fun C' v' h' => ?_⟩
  rw [hf] at h'
  cases h'
  rw [hs]
  refine hw cs' _ e ?_
  refine ⟨shal_pS sh, shal_pS sh, ?_⟩
  rw [deq_pairS]
  exact h cs' e
end LS
namespace LS
open PySem PySem.Spec PyProof.Rows L2 DL
theorem atI_L {α : Type} {f : α → D} {l : List α} {i : Nat} (h : i < l.length) : atI (l.map f) (i : Int) = some (f l[i]) := by
  rw [atI_map, atI_nat (List.getElem?_eq_getElem h)]; rfl
theorem Alt.put {l l' : List (Int × Int)} {x k : Nat} {z : Int × Int} (h : Alt l l' x) (hk : x < k) : Alt l (l'.set k z) x :=
  ⟨by rw [List.length_set, h.len], by rw [List.take_set_of_le (by omega), h.pre]⟩
theorem h__law_fault_right (cl : Str → Addr) : DOk (P__law_fault_right cl) (w__law_fault_right cl) 9 := by
  rintro ds cs Φ _ ⟨a, l, rfl, sr, c, l0, l1, h⟩
  have hf := (fault_clo c.len).mpr c
  unfold w__law_fault_right
  refine cut (fun ρ' cs' => ∃ (p : Addr) (x : Nat), x < l.length ∧ a ≠ p ∧ ρ' = [some (.cell a), some (eC l), some (.cell p), some (.int x), none, none, none, none, none] ∧ Src cs' a ∧ cs' p = some (.lst (l.map pD))) (fun B hB => ?_) ?_
  · simp [-List.lookup_eq_none_iff, dSeq, dIf, dB, dOp, dVar, dC, dUn, dAsg, dCB, dCons, dNil, dgName, dgSub, dRet, dRetN, dDrop, dNext, dBreak, dCont, dNever, dIfE, dAnd, dOr, dNot, dTru, dAndV, dOrV, dNotV, dTup, dLst, nF, nC, dFld, dSetF, dCall, dMeth, dMake, dPar, dPar3, dgTup, dgCons, dgNil, dAug, dAugS2, dAugF, dBM, dBM0, dChain, dYes, dSl, dPart, dNoPart, wSl, wLt, wLe, wGt, wGe, wI, wI0, wAdd, wSub, wMod, wDiv, wPow, wMul, wEq, wEqB, wNe, wIsN, wIsB, wLen, wInt, wMax2, wMin2, wI2, wIxA, wSet, wGetC, wIp, wTupleOf, wStrI, wIsi, wIn, wInT, wAppend, wPop, wInsert, wLM, wGet, dkey, startD, tru, dty, lq, dRevL, putD, CDiv, CMul, CPow, setc_same, setc_setc, dLc_eq, diSeq, eC]
    refine lc_mapL (f := pD) trivial (by omega) (fun x _ B1 hB1 => by simp [-List.lookup_eq_none_iff, dSeq, dIf, dB, dOp, dVar, dC, dUn, dAsg, dCB, dCons, dNil, dgName, dgSub, dRet, dRetN, dDrop, dNext, dBreak, dCont, dNever, dIfE, dAnd, dOr, dNot, dTru, dAndV, dOrV, dNotV, dTup, dLst, nF, nC, dFld, dSetF, dCall, dMeth, dMake, dPar, dPar3, dgTup, dgCons, dgNil, dAug, dAugS2, dAugF, dBM, dBM0, dChain, dYes, dSl, dPart, dNoPart, wSl, wLt, wLe, wGt, wGe, wI, wI0, wAdd, wSub, wMod, wDiv, wPow, wMul, wEq, wEqB, wNe, wIsN, wIsB, wLen, wInt, wMax2, wMin2, wI2, wIxA, wSet, wGetC, wIp, wTupleOf, wStrI, wIsi, wIn, wInT, wAppend, wPop, wInsert, wLM, wGet, dkey, startD, tru, dty, lq, dRevL, putD, CDiv, CMul, CPow, setc_same, setc_setc, wipeD]; exact hB1) fun p hp => ?_
    have ne : a ≠ p := Src.off sr hp
    refine ⟨a, _, rfl, Src.put sr ne, by omega, by omega, fun cs2 g s2 o2 g0 g1 => ?_⟩
    exact hB _ _ ⟨p, g.toNat, by omega, ne, by rw [Int.toNat_of_nonneg g0]; rfl, s2, by rw [o2 p (Ne.symm ne), setc_same]⟩
  rintro _ cs1 ⟨p, x, hx, ne, rfl, s1, hp⟩
  obtain ⟨z, ez⟩ : ∃ z, l[x].1 = z := ⟨_, rfl⟩
  obtain ⟨v, ev⟩ : ∃ v, l[x].2 = v := ⟨_, rfl⟩
  have el : l[x] = (z, v) := by rw [← ez, ← ev]
  obtain ⟨z0, z1, v0, v1⟩ := c.ok _ (List.getElem_mem hx)
  rw [el] at z0 z1 v0 v1
  refine cut (fun ρ' cs' => ρ' = [some (.cell a), some (eC l), some (.cell p), some (.int x), some (.int z), some (.int v), none, none, none] ∧ cs' = cs1) (fun B hB => ?_) ?_
  · simp [-List.lookup_eq_none_iff, dSeq, dIf, dB, dOp, dVar, dC, dUn, dAsg, dCB, dCons, dNil, dgName, dgSub, dRet, dRetN, dDrop, dNext, dBreak, dCont, dNever, dIfE, dAnd, dOr, dNot, dTru, dAndV, dOrV, dNotV, dTup, dLst, nF, nC, dFld, dSetF, dCall, dMeth, dMake, dPar, dPar3, dgTup, dgCons, dgNil, dAug, dAugS2, dAugF, dBM, dBM0, dChain, dYes, dSl, dPart, dNoPart, wSl, wLt, wLe, wGt, wGe, wI, wI0, wAdd, wSub, wMod, wDiv, wPow, wMul, wEq, wEqB, wNe, wIsN, wIsB, wLen, wInt, wMax2, wMin2, wI2, wIxA, wSet, wGetC, wIp, wTupleOf, wStrI, wIsi, wIn, wInT, wAppend, wPop, wInsert, wLM, wGet, dkey, startD, tru, dty, lq, dRevL, putD, CDiv, CMul, CPow, setc_same, setc_setc, hp, atI_L hx, el]
    exact hB _ _ ⟨rfl, rfl⟩
  rintro _ _ ⟨rfl, rfl⟩
  refine cut (fun ρ' cs' => ∃ b l', ρ' = [some (.cell a), some (eC l), some (.cell p), some (.int x), some (.int z), some (.int v), b, none, none] ∧ Src cs' a ∧ cs' p = some (.lst (l'.map pD)) ∧ Alt l l' x) (fun B hB => ?_) ?_
  · have hx2 : l.length < 1000 := by omega
    rw [dFor_eq]
    simp [-List.lookup_eq_none_iff, dSeq, dIf, dB, dOp, dVar, dC, dUn, dAsg, dCB, dCons, dNil, dgName, dgSub, dRet, dRetN, dDrop, dNext, dBreak, dCont, dNever, dIfE, dAnd, dOr, dNot, dTru, dAndV, dOrV, dNotV, dTup, dLst, nF, nC, dFld, dSetF, dCall, dMeth, dMake, dPar, dPar3, dgTup, dgCons, dgNil, dAug, dAugS2, dAugF, dBM, dBM0, dChain, dYes, dSl, dPart, dNoPart, wSl, wLt, wLe, wGt, wGe, wI, wI0, wAdd, wSub, wMod, wDiv, wPow, wMul, wEq, wEqB, wNe, wIsN, wIsB, wLen, wInt, wMax2, wMin2, wI2, wIxA, wSet, wGetC, wIp, wTupleOf, wStrI, wIsi, wIn, wInT, wAppend, wPop, wInsert, wLM, wGet, dkey, startD, tru, dty, lq, dRevL, putD, CDiv, CMul, CPow, setc_same, setc_setc, diRng2, hp]
    refine ⟨by omega, by omega, by omega, ?_⟩
    refine for_gen (fun i ρ' cs' => ∃ b l', ρ' = [some (.cell a), some (eC l), some (.cell p), some (.int x), some (.int z), some (.int v), b, none, none] ∧ Src cs' a ∧ cs' p = some (.lst (l'.map pD)) ∧ Alt l l' x) ⟨_, l, rfl, s1, hp, rfl, rfl⟩ (fun _ _ _ _ => trivial) ?_ (fun ρ2 cs2 q => hB _ _ q)
    rintro i _ cs2 d ⟨b, l', rfl, s2, hp2, al⟩ hd C hC
    obtain ⟨hi, rfl⟩ := rng_get hd
    obtain ⟨k, ek⟩ : ∃ k : Nat, (x : Int) + 1 + (i : Int) = k := ⟨x + 1 + i, by omega⟩
    rw [ek]
    have hk : k < l'.length := by rw [al.len]; omega
    simp only [dgName, List.set_cons_succ, List.set_cons_zero]
    refine cutif (fun _ cs' => Src cs' a ∧ cs' p = some (.lst (l'.map pD))) (fun B1 h1 => ?_) ?_ ?_
    · simp [-List.lookup_eq_none_iff, dSeq, dIf, dB, dOp, dVar, dC, dUn, dAsg, dCB, dCons, dNil, dgName, dgSub, dRet, dRetN, dDrop, dNext, dBreak, dCont, dNever, dIfE, dAnd, dOr, dNot, dTru, dAndV, dOrV, dNotV, dTup, dLst, nF, nC, dFld, dSetF, dCall, dMeth, dMake, dPar, dPar3, dgTup, dgCons, dgNil, dAug, dAugS2, dAugF, dBM, dBM0, dChain, dYes, dSl, dPart, dNoPart, wSl, wLt, wLe, wGt, wGe, wI, wI0, wAdd, wSub, wMod, wDiv, wPow, wMul, wEq, wEqB, wNe, wIsN, wIsB, wLen, wInt, wMax2, wMin2, wI2, wIxA, wSet, wGetC, wIp, wTupleOf, wStrI, wIsi, wIn, wInT, wAppend, wPop, wInsert, wLM, wGet, dkey, startD, tru, dty, lq, dRevL, putD, CDiv, CMul, CPow, setc_same, setc_setc]
      refine ⟨a, 8, rfl, s2, by omega, by omega, fun cs3 g s3 o3 g0 g1 => h1 _ _ ⟨s3, by rw [o3 p (Ne.symm ne), hp2]⟩⟩
    · rintro cs3 ⟨s3, hp3⟩
      simp [-List.lookup_eq_none_iff, dSeq, dIf, dB, dOp, dVar, dC, dUn, dAsg, dCB, dCons, dNil, dgName, dgSub, dRet, dRetN, dDrop, dNext, dBreak, dCont, dNever, dIfE, dAnd, dOr, dNot, dTru, dAndV, dOrV, dNotV, dTup, dLst, nF, nC, dFld, dSetF, dCall, dMeth, dMake, dPar, dPar3, dgTup, dgCons, dgNil, dAug, dAugS2, dAugF, dBM, dBM0, dChain, dYes, dSl, dPart, dNoPart, wSl, wLt, wLe, wGt, wGe, wI, wI0, wAdd, wSub, wMod, wDiv, wPow, wMul, wEq, wEqB, wNe, wIsN, wIsB, wLen, wInt, wMax2, wMin2, wI2, wIxA, wSet, wGetC, wIp, wTupleOf, wStrI, wIsi, wIn, wInT, wAppend, wPop, wInsert, wLM, wGet, dkey, startD, tru, dty, lq, dRevL, putD, CDiv, CMul, CPow, setc_same, setc_setc, hp3, atI_L hk, at2_0]
      refine ⟨a, _, rfl, s3, by simp, by simp, fun d hd cs4 s4 o4 => ?_⟩
      obtain ⟨g, rfl⟩ : ∃ g : Int, d = .int g := by
        simp only [List.mem_cons, List.not_mem_nil, or_false] at hd
        rcases hd with rfl | rfl
        · exact ⟨_, rfl⟩
        · exact ⟨_, rfl⟩
      have hp4 : cs4 p = some (.lst (l'.map pD)) := by rw [o4 p (Ne.symm ne), hp3]
      simp [-List.lookup_eq_none_iff, dSeq, dIf, dB, dOp, dVar, dC, dUn, dAsg, dCB, dCons, dNil, dgName, dgSub, dRet, dRetN, dDrop, dNext, dBreak, dCont, dNever, dIfE, dAnd, dOr, dNot, dTru, dAndV, dOrV, dNotV, dTup, dLst, nF, nC, dFld, dSetF, dCall, dMeth, dMake, dPar, dPar3, dgTup, dgCons, dgNil, dAug, dAugS2, dAugF, dBM, dBM0, dChain, dYes, dSl, dPart, dNoPart, wSl, wLt, wLe, wGt, wGe, wI, wI0, wAdd, wSub, wMod, wDiv, wPow, wMul, wEq, wEqB, wNe, wIsN, wIsB, wLen, wInt, wMax2, wMin2, wI2, wIxA, wSet, wGetC, wIp, wTupleOf, wStrI, wIsi, wIn, wInT, wAppend, wPop, wInsert, wLM, wGet, dkey, startD, tru, dty, lq, dRevL, putD, CDiv, CMul, CPow, setc_same, setc_setc, hp4, ixN_natL hk]
      refine hC _ _ ⟨_, l'.set k (g, 0), rfl, Src.put s4 ne, ?_, al.put (by omega)⟩
      rw [setc_same, List.map_set]
    · rintro cs3 ⟨s3, hp3⟩
      simp [-List.lookup_eq_none_iff, dSeq, dIf, dB, dOp, dVar, dC, dUn, dAsg, dCB, dCons, dNil, dgName, dgSub, dRet, dRetN, dDrop, dNext, dBreak, dCont, dNever, dIfE, dAnd, dOr, dNot, dTru, dAndV, dOrV, dNotV, dTup, dLst, nF, nC, dFld, dSetF, dCall, dMeth, dMake, dPar, dPar3, dgTup, dgCons, dgNil, dAug, dAugS2, dAugF, dBM, dBM0, dChain, dYes, dSl, dPart, dNoPart, wSl, wLt, wLe, wGt, wGe, wI, wI0, wAdd, wSub, wMod, wDiv, wPow, wMul, wEq, wEqB, wNe, wIsN, wIsB, wLen, wInt, wMax2, wMin2, wI2, wIxA, wSet, wGetC, wIp, wTupleOf, wStrI, wIsi, wIn, wInT, wAppend, wPop, wInsert, wLM, wGet, dkey, startD, tru, dty, lq, dRevL, putD, CDiv, CMul, CPow, setc_same, setc_setc]
      exact hC _ _ ⟨_, l', rfl, s3, hp3, al⟩
  rintro _ cs2 ⟨b, l', rfl, s2, hp2, al⟩
  obtain ⟨la, lb, e1, e2, lc, e3⟩ := alt_split al hx
  rw [el] at e1 e3
  have fa : fault (-1) 0 la = none := fault_pre la _ _ _ (e3 ▸ hf)
  have fb : fault (-1) 0 (la ++ [(z, v)]) = none := fault_pre _ lc _ _ (by rw [List.append_assoc]; exact e3 ▸ hf)
  have hx' : x < l'.length := by rw [al.len]; exact hx
  refine cut (fun ρ' cs' => ∃ w : Int, 0 ≤ w ∧ w < 4 ∧ ρ' = [some (.cell a), some (eC l), some (.cell p), some (.int x), some (.int z), some (.int v), b, some (.int w), none] ∧ Src cs' a ∧ cs' p = some (.lst (l'.map pD))) (fun B hB => ?_) ?_
  · simp [-List.lookup_eq_none_iff, dSeq, dIf, dB, dOp, dVar, dC, dUn, dAsg, dCB, dCons, dNil, dgName, dgSub, dRet, dRetN, dDrop, dNext, dBreak, dCont, dNever, dIfE, dAnd, dOr, dNot, dTru, dAndV, dOrV, dNotV, dTup, dLst, nF, nC, dFld, dSetF, dCall, dMeth, dMake, dPar, dPar3, dgTup, dgCons, dgNil, dAug, dAugS2, dAugF, dBM, dBM0, dChain, dYes, dSl, dPart, dNoPart, wSl, wLt, wLe, wGt, wGe, wI, wI0, wAdd, wSub, wMod, wDiv, wPow, wMul, wEq, wEqB, wNe, wIsN, wIsB, wLen, wInt, wMax2, wMin2, wI2, wIxA, wSet, wGetC, wIp, wTupleOf, wStrI, wIsi, wIn, wInT, wAppend, wPop, wInsert, wLM, wGet, dkey, startD, tru, dty, lq, dRevL, putD, CDiv, CMul, CPow, setc_same, setc_setc]
    exact ⟨a, 4, rfl, s2, by omega, by omega, fun cs3 g s3 o3 g0 g1 => hB _ _ ⟨g, g0, g1, rfl, s3, by rw [o3 p (Ne.symm ne), hp2]⟩⟩
  rintro _ cs3 ⟨w, w0, w1, rfl, s3, hp3⟩
  refine cut (fun ρ' cs' => w ≠ 0 ∧ ρ' = [some (.cell a), some (eC l), some (.cell p), some (.int x), some (.int z), some (.int v), b, some (.int w), none] ∧ cs3 = cs') (fun B hB => ?_) ?_
  · refine cutif (fun b cs' => b = decide (w = 0) ∧ cs3 = cs') (fun B1 h1 => by simp [-List.lookup_eq_none_iff, dSeq, dIf, dB, dOp, dVar, dC, dUn, dAsg, dCB, dCons, dNil, dgName, dgSub, dRet, dRetN, dDrop, dNext, dBreak, dCont, dNever, dIfE, dAnd, dOr, dNot, dTru, dAndV, dOrV, dNotV, dTup, dLst, nF, nC, dFld, dSetF, dCall, dMeth, dMake, dPar, dPar3, dgTup, dgCons, dgNil, dAug, dAugS2, dAugF, dBM, dBM0, dChain, dYes, dSl, dPart, dNoPart, wSl, wLt, wLe, wGt, wGe, wI, wI0, wAdd, wSub, wMod, wDiv, wPow, wMul, wEq, wEqB, wNe, wIsN, wIsB, wLen, wInt, wMax2, wMin2, wI2, wIxA, wSet, wGetC, wIp, wTupleOf, wStrI, wIsi, wIn, wInT, wAppend, wPop, wInsert, wLM, wGet, dkey, startD, tru, dty, lq, dRevL, putD, CDiv, CMul, CPow, setc_same, setc_setc]; exact h1 _ _ ⟨rfl, rfl⟩) ?_ ?_
    · rintro _ ⟨q, rfl⟩
      refine cut (fun ρ' cs' => ∃ z' v' : Int, ¬ (0 ≤ z' ∧ z' < 256) ∧ ρ' = [some (.cell a), some (eC l), some (.cell p), some (.int x), some (.int z), some (.int v), b, some (.int w), none] ∧ Src cs' a ∧ cs' p = some (.lst ((l'.set x (z', v')).map pD))) (fun B2 h2 => ?_) ?_
      · simp [-List.lookup_eq_none_iff, dSeq, dIf, dB, dOp, dVar, dC, dUn, dAsg, dCB, dCons, dNil, dgName, dgSub, dRet, dRetN, dDrop, dNext, dBreak, dCont, dNever, dIfE, dAnd, dOr, dNot, dTru, dAndV, dOrV, dNotV, dTup, dLst, nF, nC, dFld, dSetF, dCall, dMeth, dMake, dPar, dPar3, dgTup, dgCons, dgNil, dAug, dAugS2, dAugF, dBM, dBM0, dChain, dYes, dSl, dPart, dNoPart, wSl, wLt, wLe, wGt, wGe, wI, wI0, wAdd, wSub, wMod, wDiv, wPow, wMul, wEq, wEqB, wNe, wIsN, wIsB, wLen, wInt, wMax2, wMin2, wI2, wIxA, wSet, wGetC, wIp, wTupleOf, wStrI, wIsi, wIn, wInT, wAppend, wPop, wInsert, wLM, wGet, dkey, startD, tru, dty, lq, dRevL, putD, CDiv, CMul, CPow, setc_same, setc_setc]
        refine ⟨a, _, rfl, s3, by simp, by simp, fun d hd cs4 s4 o4 => ?_⟩
        obtain ⟨z', rfl, hz⟩ : ∃ g : Int, d = .int g ∧ ¬ (0 ≤ g ∧ g < 256) := by
          simp only [List.mem_cons, List.not_mem_nil, or_false] at hd
          rcases hd with rfl | rfl | rfl | rfl
          all_goals exact ⟨_, rfl, by decide⟩
        refine ⟨a, _, rfl, s4, by simp, by simp, fun d hd cs5 s5 o5 => ?_⟩
        obtain ⟨v', rfl⟩ : ∃ g : Int, d = .int g := by
          simp only [List.mem_cons, List.not_mem_nil, or_false] at hd
          rcases hd with rfl | rfl
          all_goals exact ⟨_, rfl⟩
        have hp5 : cs5 p = some (.lst (l'.map pD)) := by rw [o5 p (Ne.symm ne), o4 p (Ne.symm ne), hp3]
        simp [-List.lookup_eq_none_iff, dSeq, dIf, dB, dOp, dVar, dC, dUn, dAsg, dCB, dCons, dNil, dgName, dgSub, dRet, dRetN, dDrop, dNext, dBreak, dCont, dNever, dIfE, dAnd, dOr, dNot, dTru, dAndV, dOrV, dNotV, dTup, dLst, nF, nC, dFld, dSetF, dCall, dMeth, dMake, dPar, dPar3, dgTup, dgCons, dgNil, dAug, dAugS2, dAugF, dBM, dBM0, dChain, dYes, dSl, dPart, dNoPart, wSl, wLt, wLe, wGt, wGe, wI, wI0, wAdd, wSub, wMod, wDiv, wPow, wMul, wEq, wEqB, wNe, wIsN, wIsB, wLen, wInt, wMax2, wMin2, wI2, wIxA, wSet, wGetC, wIp, wTupleOf, wStrI, wIsi, wIn, wInT, wAppend, wPop, wInsert, wLM, wGet, dkey, startD, tru, dty, lq, dRevL, putD, CDiv, CMul, CPow, setc_same, setc_setc, hp5]
        refine ⟨x, ixN_natL hx', h2 _ _ ⟨z', v', hz, rfl, Src.put s5 ne, ?_⟩⟩
        rw [setc_same, List.map_set]
      rintro _ cs4 ⟨z', v', hz, rfl, s4, hp4⟩
      have hl : l'.set x (z', v') = la ++ (z', v') :: lb := by rw [e1, ← e2, set_mid]
      refine told_is (C := "BadLetter") (v := z') rfl hp4 (by rw [List.length_set, al.len]; omega) (by rw [hl]; exact faultA fa hz) (by decide) (shal_str (by decide +kernel)) (fun cs' B e hB => ?_) fun cs' e => h _ (s4.ext e)
      have hx2 : x < (l'.set x (z', v')).length := by rw [List.length_set]; exact hx'
      have hx3 : atI ((List.map pD l').set x (pD (z', v'))) (x : Int) = some (pD (z', v')) := atI_nat (by rw [List.getElem?_set]; simp [hx'])
      simp [-List.lookup_eq_none_iff, dSeq, dIf, dB, dOp, dVar, dC, dUn, dAsg, dCB, dCons, dNil, dgName, dgSub, dRet, dRetN, dDrop, dNext, dBreak, dCont, dNever, dIfE, dAnd, dOr, dNot, dTru, dAndV, dOrV, dNotV, dTup, dLst, nF, nC, dFld, dSetF, dCall, dMeth, dMake, dPar, dPar3, dgTup, dgCons, dgNil, dAug, dAugS2, dAugF, dBM, dBM0, dChain, dYes, dSl, dPart, dNoPart, wSl, wLt, wLe, wGt, wGe, wI, wI0, wAdd, wSub, wMod, wDiv, wPow, wMul, wEq, wEqB, wNe, wIsN, wIsB, wLen, wInt, wMax2, wMin2, wI2, wIxA, wSet, wGetC, wIp, wTupleOf, wStrI, wIsi, wIn, wInT, wAppend, wPop, wInsert, wLM, wGet, dkey, startD, tru, dty, lq, dRevL, putD, CDiv, CMul, CPow, setc_same, setc_setc, e _ _ hp4, hx3, at2_0]
      exact hB
    · rintro _ ⟨q, rfl⟩
      simp [-List.lookup_eq_none_iff, dSeq, dIf, dB, dOp, dVar, dC, dUn, dAsg, dCB, dCons, dNil, dgName, dgSub, dRet, dRetN, dDrop, dNext, dBreak, dCont, dNever, dIfE, dAnd, dOr, dNot, dTru, dAndV, dOrV, dNotV, dTup, dLst, nF, nC, dFld, dSetF, dCall, dMeth, dMake, dPar, dPar3, dgTup, dgCons, dgNil, dAug, dAugS2, dAugF, dBM, dBM0, dChain, dYes, dSl, dPart, dNoPart, wSl, wLt, wLe, wGt, wGe, wI, wI0, wAdd, wSub, wMod, wDiv, wPow, wMul, wEq, wEqB, wNe, wIsN, wIsB, wLen, wInt, wMax2, wMin2, wI2, wIxA, wSet, wGetC, wIp, wTupleOf, wStrI, wIsi, wIn, wInT, wAppend, wPop, wInsert, wLM, wGet, dkey, startD, tru, dty, lq, dRevL, putD, CDiv, CMul, CPow, setc_same, setc_setc]
      exact hB _ _ ⟨fun e => by simp [e] at q, rfl, rfl⟩
  rintro _ _ ⟨w2, rfl, rfl⟩
  refine cut (fun ρ' cs' => w ≠ 1 ∧ ρ' = [some (.cell a), some (eC l), some (.cell p), some (.int x), some (.int z), some (.int v), b, some (.int w), none] ∧ cs3 = cs') (fun B hB => ?_) ?_
  · refine cutif (fun b cs' => b = decide (w = 1) ∧ cs3 = cs') (fun B1 h1 => by simp [-List.lookup_eq_none_iff, dSeq, dIf, dB, dOp, dVar, dC, dUn, dAsg, dCB, dCons, dNil, dgName, dgSub, dRet, dRetN, dDrop, dNext, dBreak, dCont, dNever, dIfE, dAnd, dOr, dNot, dTru, dAndV, dOrV, dNotV, dTup, dLst, nF, nC, dFld, dSetF, dCall, dMeth, dMake, dPar, dPar3, dgTup, dgCons, dgNil, dAug, dAugS2, dAugF, dBM, dBM0, dChain, dYes, dSl, dPart, dNoPart, wSl, wLt, wLe, wGt, wGe, wI, wI0, wAdd, wSub, wMod, wDiv, wPow, wMul, wEq, wEqB, wNe, wIsN, wIsB, wLen, wInt, wMax2, wMin2, wI2, wIxA, wSet, wGetC, wIp, wTupleOf, wStrI, wIsi, wIn, wInT, wAppend, wPop, wInsert, wLM, wGet, dkey, startD, tru, dty, lq, dRevL, putD, CDiv, CMul, CPow, setc_same, setc_setc]; exact h1 _ _ ⟨rfl, rfl⟩) ?_ ?_
    · rintro _ ⟨q, rfl⟩
      refine cut (fun ρ' cs' => ∃ v' : Int, ¬ (1 ≤ v' ∧ v' ≤ 1000000) ∧ ρ' = [some (.cell a), some (eC l), some (.cell p), some (.int x), some (.int z), some (.int v), b, some (.int w), none] ∧ Src cs' a ∧ cs' p = some (.lst ((l'.set x (z, v')).map pD))) (fun B2 h2 => ?_) ?_
      · simp [-List.lookup_eq_none_iff, dSeq, dIf, dB, dOp, dVar, dC, dUn, dAsg, dCB, dCons, dNil, dgName, dgSub, dRet, dRetN, dDrop, dNext, dBreak, dCont, dNever, dIfE, dAnd, dOr, dNot, dTru, dAndV, dOrV, dNotV, dTup, dLst, nF, nC, dFld, dSetF, dCall, dMeth, dMake, dPar, dPar3, dgTup, dgCons, dgNil, dAug, dAugS2, dAugF, dBM, dBM0, dChain, dYes, dSl, dPart, dNoPart, wSl, wLt, wLe, wGt, wGe, wI, wI0, wAdd, wSub, wMod, wDiv, wPow, wMul, wEq, wEqB, wNe, wIsN, wIsB, wLen, wInt, wMax2, wMin2, wI2, wIxA, wSet, wGetC, wIp, wTupleOf, wStrI, wIsi, wIn, wInT, wAppend, wPop, wInsert, wLM, wGet, dkey, startD, tru, dty, lq, dRevL, putD, CDiv, CMul, CPow, setc_same, setc_setc]
        refine ⟨a, _, rfl, s3, by simp, by simp, fun d hd cs4 s4 o4 => ?_⟩
        obtain ⟨v', rfl, hz⟩ : ∃ g : Int, d = .int g ∧ ¬ (1 ≤ g ∧ g ≤ 1000000) := by
          simp only [List.mem_cons, List.not_mem_nil, or_false] at hd
          rcases hd with rfl | rfl | rfl | rfl
          all_goals exact ⟨_, rfl, by decide⟩
        have hp5 : cs4 p = some (.lst (l'.map pD)) := by rw [o4 p (Ne.symm ne), hp3]
        simp [-List.lookup_eq_none_iff, dSeq, dIf, dB, dOp, dVar, dC, dUn, dAsg, dCB, dCons, dNil, dgName, dgSub, dRet, dRetN, dDrop, dNext, dBreak, dCont, dNever, dIfE, dAnd, dOr, dNot, dTru, dAndV, dOrV, dNotV, dTup, dLst, nF, nC, dFld, dSetF, dCall, dMeth, dMake, dPar, dPar3, dgTup, dgCons, dgNil, dAug, dAugS2, dAugF, dBM, dBM0, dChain, dYes, dSl, dPart, dNoPart, wSl, wLt, wLe, wGt, wGe, wI, wI0, wAdd, wSub, wMod, wDiv, wPow, wMul, wEq, wEqB, wNe, wIsN, wIsB, wLen, wInt, wMax2, wMin2, wI2, wIxA, wSet, wGetC, wIp, wTupleOf, wStrI, wIsi, wIn, wInT, wAppend, wPop, wInsert, wLM, wGet, dkey, startD, tru, dty, lq, dRevL, putD, CDiv, CMul, CPow, setc_same, setc_setc, hp5]
        refine ⟨x, ixN_natL hx', h2 _ _ ⟨v', hz, rfl, Src.put s4 ne, ?_⟩⟩
        rw [setc_same, List.map_set]
      rintro _ cs4 ⟨v', hz, rfl, s4, hp4⟩
      have hl : l'.set x (z, v') = la ++ (z, v') :: lb := by rw [e1, ← e2, set_mid]
      refine told_is (C := "BadCount") (v := (x : Int)) rfl hp4 (by rw [List.length_set, al.len]; omega) (by rw [hl, ← e2]; exact faultB fa ⟨z0, z1⟩ (.inr hz)) (by decide) (shal_str (by decide +kernel)) (fun cs' B e hB => ?_) fun cs' e => h _ (s4.ext e)
      simp [-List.lookup_eq_none_iff, dSeq, dIf, dB, dOp, dVar, dC, dUn, dAsg, dCB, dCons, dNil, dgName, dgSub, dRet, dRetN, dDrop, dNext, dBreak, dCont, dNever, dIfE, dAnd, dOr, dNot, dTru, dAndV, dOrV, dNotV, dTup, dLst, nF, nC, dFld, dSetF, dCall, dMeth, dMake, dPar, dPar3, dgTup, dgCons, dgNil, dAug, dAugS2, dAugF, dBM, dBM0, dChain, dYes, dSl, dPart, dNoPart, wSl, wLt, wLe, wGt, wGe, wI, wI0, wAdd, wSub, wMod, wDiv, wPow, wMul, wEq, wEqB, wNe, wIsN, wIsB, wLen, wInt, wMax2, wMin2, wI2, wIxA, wSet, wGetC, wIp, wTupleOf, wStrI, wIsi, wIn, wInT, wAppend, wPop, wInsert, wLM, wGet, dkey, startD, tru, dty, lq, dRevL, putD, CDiv, CMul, CPow, setc_same, setc_setc]
      exact hB
    · rintro _ ⟨q, rfl⟩
      simp [-List.lookup_eq_none_iff, dSeq, dIf, dB, dOp, dVar, dC, dUn, dAsg, dCB, dCons, dNil, dgName, dgSub, dRet, dRetN, dDrop, dNext, dBreak, dCont, dNever, dIfE, dAnd, dOr, dNot, dTru, dAndV, dOrV, dNotV, dTup, dLst, nF, nC, dFld, dSetF, dCall, dMeth, dMake, dPar, dPar3, dgTup, dgCons, dgNil, dAug, dAugS2, dAugF, dBM, dBM0, dChain, dYes, dSl, dPart, dNoPart, wSl, wLt, wLe, wGt, wGe, wI, wI0, wAdd, wSub, wMod, wDiv, wPow, wMul, wEq, wEqB, wNe, wIsN, wIsB, wLen, wInt, wMax2, wMin2, wI2, wIxA, wSet, wGetC, wIp, wTupleOf, wStrI, wIsi, wIn, wInT, wAppend, wPop, wInsert, wLM, wGet, dkey, startD, tru, dty, lq, dRevL, putD, CDiv, CMul, CPow, setc_same, setc_setc]
      exact hB _ _ ⟨fun e => by simp [e] at q, rfl, rfl⟩
  rintro _ _ ⟨w3, rfl, rfl⟩
  refine cut (fun ρ' cs' => ∃ z' : Int, 0 ≤ z' ∧ z' ≤ z ∧ ρ' = [some (.cell a), some (eC l), some (.cell p), some (.int x), some (.int z), some (.int v), b, some (.int w), none] ∧ Src cs' a ∧ cs' p = some (.lst ((la ++ (z, v) :: (z', 1) :: lb).map pD))) (fun B2 h2 => ?_) ?_
  · have hins : ∀ z' : Int, ((l'.map pD).take (x + 1) ++ D.tup [.int z', .int 1] :: (l'.map pD).drop (x + 1)) = (la ++ (z, v) :: (z', 1) :: lb).map pD := fun z' => by
      rw [e1, ← e2, List.map_append, List.map_cons, List.map_append, List.map_cons, List.map_cons, List.take_append, List.drop_append]; simp [List.take_of_length_le, List.drop_of_length_le]
    by_cases w4 : w = 2
    · subst w4
      simp [-List.lookup_eq_none_iff, dSeq, dIf, dB, dOp, dVar, dC, dUn, dAsg, dCB, dCons, dNil, dgName, dgSub, dRet, dRetN, dDrop, dNext, dBreak, dCont, dNever, dIfE, dAnd, dOr, dNot, dTru, dAndV, dOrV, dNotV, dTup, dLst, nF, nC, dFld, dSetF, dCall, dMeth, dMake, dPar, dPar3, dgTup, dgCons, dgNil, dAug, dAugS2, dAugF, dBM, dBM0, dChain, dYes, dSl, dPart, dNoPart, wSl, wLt, wLe, wGt, wGe, wI, wI0, wAdd, wSub, wMod, wDiv, wPow, wMul, wEq, wEqB, wNe, wIsN, wIsB, wLen, wInt, wMax2, wMin2, wI2, wIxA, wSet, wGetC, wIp, wTupleOf, wStrI, wIsi, wIn, wInT, wAppend, wPop, wInsert, wLM, wGet, dkey, startD, tru, dty, lq, dRevL, putD, CDiv, CMul, CPow, setc_same, setc_setc, hp3]
      refine ⟨by rw [al.len]; omega, by omega, by omega, h2 _ _ ⟨z, z0, Int.le_refl z, rfl, Src.put s3 ne, ?_⟩⟩
      rw [setc_same, hins]
    · simp [-List.lookup_eq_none_iff, dSeq, dIf, dB, dOp, dVar, dC, dUn, dAsg, dCB, dCons, dNil, dgName, dgSub, dRet, dRetN, dDrop, dNext, dBreak, dCont, dNever, dIfE, dAnd, dOr, dNot, dTru, dAndV, dOrV, dNotV, dTup, dLst, nF, nC, dFld, dSetF, dCall, dMeth, dMake, dPar, dPar3, dgTup, dgCons, dgNil, dAug, dAugS2, dAugF, dBM, dBM0, dChain, dYes, dSl, dPart, dNoPart, wSl, wLt, wLe, wGt, wGe, wI, wI0, wAdd, wSub, wMod, wDiv, wPow, wMul, wEq, wEqB, wNe, wIsN, wIsB, wLen, wInt, wMax2, wMin2, wI2, wIxA, wSet, wGetC, wIp, wTupleOf, wStrI, wIsi, wIn, wInT, wAppend, wPop, wInsert, wLM, wGet, dkey, startD, tru, dty, lq, dRevL, putD, CDiv, CMul, CPow, setc_same, setc_setc, w4, hp3]
      refine ⟨a, _, rfl, s3, by omega, by omega, fun cs4 g s4 o4 g0 g1 => ?_⟩
      have hp4 : cs4 p = some (.lst (l'.map pD)) := by rw [o4 p (Ne.symm ne), hp3]
      simp [-List.lookup_eq_none_iff, dSeq, dIf, dB, dOp, dVar, dC, dUn, dAsg, dCB, dCons, dNil, dgName, dgSub, dRet, dRetN, dDrop, dNext, dBreak, dCont, dNever, dIfE, dAnd, dOr, dNot, dTru, dAndV, dOrV, dNotV, dTup, dLst, nF, nC, dFld, dSetF, dCall, dMeth, dMake, dPar, dPar3, dgTup, dgCons, dgNil, dAug, dAugS2, dAugF, dBM, dBM0, dChain, dYes, dSl, dPart, dNoPart, wSl, wLt, wLe, wGt, wGe, wI, wI0, wAdd, wSub, wMod, wDiv, wPow, wMul, wEq, wEqB, wNe, wIsN, wIsB, wLen, wInt, wMax2, wMin2, wI2, wIxA, wSet, wGetC, wIp, wTupleOf, wStrI, wIsi, wIn, wInT, wAppend, wPop, wInsert, wLM, wGet, dkey, startD, tru, dty, lq, dRevL, putD, CDiv, CMul, CPow, setc_same, setc_setc, hp4]
      refine ⟨by rw [al.len]; omega, by omega, by omega, h2 _ _ ⟨g, g0, by omega, rfl, Src.put s4 ne, ?_⟩⟩
      rw [setc_same, hins]
  rintro _ cs4 ⟨z', y0, y1, rfl, s4, hp4⟩
  refine told_is (C := "BadCount") (v := ((x + 1 : Nat) : Int)) rfl hp4 ?_ ?_ (by decide) (shal_str (by decide +kernel)) (fun cs' B e hB => ?_) fun cs' e => h _ (s4.ext e)
  · have : (la ++ (z, v) :: lb).length ≤ 60 := by rw [← e1, al.len]; exact l1
    simp only [List.length_append, List.length_cons] at this ⊢
    omega
  · have : la ++ (z, v) :: (z', 1) :: lb = (la ++ [(z, v)]) ++ (z', 1) :: lb := by simp
    rw [this, show x + 1 = (la ++ [(z, v)]).length by simp [e2]]
    exact faultB fb ⟨y0, by omega⟩ (.inl (by rw [lz_snoc]; exact y1))
  · simp [-List.lookup_eq_none_iff, dSeq, dIf, dB, dOp, dVar, dC, dUn, dAsg, dCB, dCons, dNil, dgName, dgSub, dRet, dRetN, dDrop, dNext, dBreak, dCont, dNever, dIfE, dAnd, dOr, dNot, dTru, dAndV, dOrV, dNotV, dTup, dLst, nF, nC, dFld, dSetF, dCall, dMeth, dMake, dPar, dPar3, dgTup, dgCons, dgNil, dAug, dAugS2, dAugF, dBM, dBM0, dChain, dYes, dSl, dPart, dNoPart, wSl, wLt, wLe, wGt, wGe, wI, wI0, wAdd, wSub, wMod, wDiv, wPow, wMul, wEq, wEqB, wNe, wIsN, wIsB, wLen, wInt, wMax2, wMin2, wI2, wIxA, wSet, wGetC, wIp, wTupleOf, wStrI, wIsi, wIn, wInT, wAppend, wPop, wInsert, wLM, wGet, dkey, startD, tru, dty, lq, dRevL, putD, CDiv, CMul, CPow, setc_same, setc_setc]
    simpa using hB
end LS
namespace LS
open PySem PySem.Spec PyProof.Rows L2 DL
theorem clo_all {s : Int} (h0 : 1 ≤ s) (h1 : s ≤ 5) : CLo ((List.range 256).map fun i : Nat => ((i : Int), 1 + ((i : Int) * s) % 11)) := by
  refine ⟨?_, ?_, by simp⟩
  · rw [List.pairwise_map]
    exact List.pairwise_lt_range.imp fun h => by simpa using h
  · intro p hp
    obtain ⟨i, hi, rfl⟩ := List.mem_map.mp hp
    have := List.mem_range.mp hi
    have q0 := Int.emod_nonneg ((i : Int) * s) (by decide : (11 : Int) ≠ 0)
    have q1 := Int.emod_lt_of_pos ((i : Int) * s) (by decide : (0 : Int) < 11)
    exact ⟨by omega, by omega, by omega, by omega⟩
theorem h__law_right (cl : Str → Addr) : DOk (P__law_right cl) (w__law_right cl) 4 := by
  rintro ds cs Φ _ ⟨a, rfl, sr, h⟩
  unfold w__law_right
  refine cut (fun ρ' cs' => ∃ l, ρ' = [some (.cell a), some (eC l), none, none] ∧ Src cs' a ∧ CLo l ∧ l.length ≤ 40) (fun B hB => ?_) ?_
  · simp [-List.lookup_eq_none_iff, dSeq, dIf, dB, dOp, dVar, dC, dUn, dAsg, dCB, dCons, dNil, dgName, dgSub, dRet, dRetN, dDrop, dNext, dBreak, dCont, dNever, dIfE, dAnd, dOr, dNot, dTru, dAndV, dOrV, dNotV, dTup, dLst, nF, nC, dFld, dSetF, dCall, dMeth, dMake, dPar, dPar3, dgTup, dgCons, dgNil, dAug, dAugS2, dAugF, dBM, dBM0, dChain, dYes, dSl, dPart, dNoPart, wSl, wLt, wLe, wGt, wGe, wI, wI0, wAdd, wSub, wMod, wDiv, wPow, wMul, wEq, wEqB, wNe, wIsN, wIsB, wLen, wInt, wMax2, wMin2, wI2, wIxA, wSet, wGetC, wIp, wTupleOf, wStrI, wIsi, wIn, wInT, wAppend, wPop, wInsert, wLM, wGet, dkey, startD, tru, dty, lq, dRevL, putD, CDiv, CMul, CPow, setc_same, setc_setc]
    refine ⟨a, 24, rfl, sr, by omega, by omega, fun l c n cs' s k => ?_⟩
    exact hB _ _ ⟨l, rfl, s, c, by omega⟩
  rintro _ cs1 ⟨l, rfl, s1, c1, n1⟩
  refine cut (fun ρ' cs' => ∃ l, ρ' = [some (.cell a), some (eC l), none, none] ∧ Src cs' a ∧ CLo l ∧ l.length ≤ 40) (fun B hB => ?_) ?_
  · refine cutif (fun b cs' => Src cs' a) (fun B1 h1 => ?_) ?_ ?_
    · simp [-List.lookup_eq_none_iff, dSeq, dIf, dB, dOp, dVar, dC, dUn, dAsg, dCB, dCons, dNil, dgName, dgSub, dRet, dRetN, dDrop, dNext, dBreak, dCont, dNever, dIfE, dAnd, dOr, dNot, dTru, dAndV, dOrV, dNotV, dTup, dLst, nF, nC, dFld, dSetF, dCall, dMeth, dMake, dPar, dPar3, dgTup, dgCons, dgNil, dAug, dAugS2, dAugF, dBM, dBM0, dChain, dYes, dSl, dPart, dNoPart, wSl, wLt, wLe, wGt, wGe, wI, wI0, wAdd, wSub, wMod, wDiv, wPow, wMul, wEq, wEqB, wNe, wIsN, wIsB, wLen, wInt, wMax2, wMin2, wI2, wIxA, wSet, wGetC, wIp, wTupleOf, wStrI, wIsi, wIn, wInT, wAppend, wPop, wInsert, wLM, wGet, dkey, startD, tru, dty, lq, dRevL, putD, CDiv, CMul, CPow, setc_same, setc_setc]
      exact ⟨a, 3, rfl, s1, by omega, by omega, fun cs' g s o g0 g1 => h1 _ _ s⟩
    · intro cs2 s2
      simp [-List.lookup_eq_none_iff, dSeq, dIf, dB, dOp, dVar, dC, dUn, dAsg, dCB, dCons, dNil, dgName, dgSub, dRet, dRetN, dDrop, dNext, dBreak, dCont, dNever, dIfE, dAnd, dOr, dNot, dTru, dAndV, dOrV, dNotV, dTup, dLst, nF, nC, dFld, dSetF, dCall, dMeth, dMake, dPar, dPar3, dgTup, dgCons, dgNil, dAug, dAugS2, dAugF, dBM, dBM0, dChain, dYes, dSl, dPart, dNoPart, wSl, wLt, wLe, wGt, wGe, wI, wI0, wAdd, wSub, wMod, wDiv, wPow, wMul, wEq, wEqB, wNe, wIsN, wIsB, wLen, wInt, wMax2, wMin2, wI2, wIxA, wSet, wGetC, wIp, wTupleOf, wStrI, wIsi, wIn, wInT, wAppend, wPop, wInsert, wLM, wGet, dkey, startD, tru, dty, lq, dRevL, putD, CDiv, CMul, CPow, setc_same, setc_setc]
      refine ⟨a, 40, rfl, s2, by omega, by omega, fun ls hl n cs' s k => ?_⟩
      refine ⟨ls, rfl, hl, by omega, fun l c n' => ?_⟩
      exact hB _ _ ⟨l, rfl, s, c, by omega⟩
    · intro cs2 s2
      simp [-List.lookup_eq_none_iff, dSeq, dIf, dB, dOp, dVar, dC, dUn, dAsg, dCB, dCons, dNil, dgName, dgSub, dRet, dRetN, dDrop, dNext, dBreak, dCont, dNever, dIfE, dAnd, dOr, dNot, dTru, dAndV, dOrV, dNotV, dTup, dLst, nF, nC, dFld, dSetF, dCall, dMeth, dMake, dPar, dPar3, dgTup, dgCons, dgNil, dAug, dAugS2, dAugF, dBM, dBM0, dChain, dYes, dSl, dPart, dNoPart, wSl, wLt, wLe, wGt, wGe, wI, wI0, wAdd, wSub, wMod, wDiv, wPow, wMul, wEq, wEqB, wNe, wIsN, wIsB, wLen, wInt, wMax2, wMin2, wI2, wIxA, wSet, wGetC, wIp, wTupleOf, wStrI, wIsi, wIn, wInT, wAppend, wPop, wInsert, wLM, wGet, dkey, startD, tru, dty, lq, dRevL, putD, CDiv, CMul, CPow, setc_same, setc_setc]
      exact hB _ _ ⟨l, rfl, s2, c1, n1⟩
  rintro _ cs2 ⟨l, rfl, s2, c2, n2⟩
  refine cut (fun ρ' cs' => ρ' = [some (.cell a), some (eC l), none, none] ∧ Src cs' a) (fun B hB => ?_) ?_
  · simp [-List.lookup_eq_none_iff, dSeq, dIf, dB, dOp, dVar, dC, dUn, dAsg, dCB, dCons, dNil, dgName, dgSub, dRet, dRetN, dDrop, dNext, dBreak, dCont, dNever, dIfE, dAnd, dOr, dNot, dTru, dAndV, dOrV, dNotV, dTup, dLst, nF, nC, dFld, dSetF, dCall, dMeth, dMake, dPar, dPar3, dgTup, dgCons, dgNil, dAug, dAugS2, dAugF, dBM, dBM0, dChain, dYes, dSl, dPart, dNoPart, wSl, wLt, wLe, wGt, wGe, wI, wI0, wAdd, wSub, wMod, wDiv, wPow, wMul, wEq, wEqB, wNe, wIsN, wIsB, wLen, wInt, wMax2, wMin2, wI2, wIxA, wSet, wGetC, wIp, wTupleOf, wStrI, wIsi, wIn, wInT, wAppend, wPop, wInsert, wLM, wGet, dkey, startD, tru, dty, lq, dRevL, putD, CDiv, CMul, CPow, setc_same, setc_setc]
    exact ⟨l, rfl, c2, by omega, fun cs' e => hB _ _ ⟨rfl, s2.ext e⟩⟩
  rintro _ cs3 ⟨rfl, s3⟩
  refine cut (fun ρ' cs' => ρ' = [some (.cell a), some (eC l), none, none] ∧ Src cs' a) (fun B hB => ?_) ?_
  · refine cutif (fun b cs' => b = false ∧ Src cs' a) (fun B1 h1 => ?_) (fun _ q => by cases q.1) (fun cs' q => by simp [-List.lookup_eq_none_iff, dSeq, dIf, dB, dOp, dVar, dC, dUn, dAsg, dCB, dCons, dNil, dgName, dgSub, dRet, dRetN, dDrop, dNext, dBreak, dCont, dNever, dIfE, dAnd, dOr, dNot, dTru, dAndV, dOrV, dNotV, dTup, dLst, nF, nC, dFld, dSetF, dCall, dMeth, dMake, dPar, dPar3, dgTup, dgCons, dgNil, dAug, dAugS2, dAugF, dBM, dBM0, dChain, dYes, dSl, dPart, dNoPart, wSl, wLt, wLe, wGt, wGe, wI, wI0, wAdd, wSub, wMod, wDiv, wPow, wMul, wEq, wEqB, wNe, wIsN, wIsB, wLen, wInt, wMax2, wMin2, wI2, wIxA, wSet, wGetC, wIp, wTupleOf, wStrI, wIsi, wIn, wInT, wAppend, wPop, wInsert, wLM, wGet, dkey, startD, tru, dty, lq, dRevL, putD, CDiv, CMul, CPow, setc_same, setc_setc]; exact hB _ _ ⟨rfl, q.2⟩)
    cases l with
    | nil =>
      simp [-List.lookup_eq_none_iff, dSeq, dIf, dB, dOp, dVar, dC, dUn, dAsg, dCB, dCons, dNil, dgName, dgSub, dRet, dRetN, dDrop, dNext, dBreak, dCont, dNever, dIfE, dAnd, dOr, dNot, dTru, dAndV, dOrV, dNotV, dTup, dLst, nF, nC, dFld, dSetF, dCall, dMeth, dMake, dPar, dPar3, dgTup, dgCons, dgNil, dAug, dAugS2, dAugF, dBM, dBM0, dChain, dYes, dSl, dPart, dNoPart, wSl, wLt, wLe, wGt, wGe, wI, wI0, wAdd, wSub, wMod, wDiv, wPow, wMul, wEq, wEqB, wNe, wIsN, wIsB, wLen, wInt, wMax2, wMin2, wI2, wIxA, wSet, wGetC, wIp, wTupleOf, wStrI, wIsi, wIn, wInT, wAppend, wPop, wInsert, wLM, wGet, dkey, startD, tru, dty, lq, dRevL, putD, CDiv, CMul, CPow, setc_same, setc_setc, eC]
      exact h1 _ _ ⟨rfl, s3⟩
    | cons y l =>
      simp [-List.lookup_eq_none_iff, dSeq, dIf, dB, dOp, dVar, dC, dUn, dAsg, dCB, dCons, dNil, dgName, dgSub, dRet, dRetN, dDrop, dNext, dBreak, dCont, dNever, dIfE, dAnd, dOr, dNot, dTru, dAndV, dOrV, dNotV, dTup, dLst, nF, nC, dFld, dSetF, dCall, dMeth, dMake, dPar, dPar3, dgTup, dgCons, dgNil, dAug, dAugS2, dAugF, dBM, dBM0, dChain, dYes, dSl, dPart, dNoPart, wSl, wLt, wLe, wGt, wGe, wI, wI0, wAdd, wSub, wMod, wDiv, wPow, wMul, wEq, wEqB, wNe, wIsN, wIsB, wLen, wInt, wMax2, wMin2, wI2, wIxA, wSet, wGetC, wIp, wTupleOf, wStrI, wIsi, wIn, wInT, wAppend, wPop, wInsert, wLM, wGet, dkey, startD, tru, dty, lq, dRevL, putD, CDiv, CMul, CPow, setc_same, setc_setc, eC]
      refine ⟨a, 3, rfl, s3, by omega, by omega, fun cs' g s o g0 g1 => ?_⟩
      by_cases q : g = 0
      · simp [q]
        refine ⟨a, y :: l, rfl, s, c2, by simp, by simp at n2 ⊢; omega, fun cs4 s4 => ?_⟩
        simp [-List.lookup_eq_none_iff, dSeq, dIf, dB, dOp, dVar, dC, dUn, dAsg, dCB, dCons, dNil, dgName, dgSub, dRet, dRetN, dDrop, dNext, dBreak, dCont, dNever, dIfE, dAnd, dOr, dNot, dTru, dAndV, dOrV, dNotV, dTup, dLst, nF, nC, dFld, dSetF, dCall, dMeth, dMake, dPar, dPar3, dgTup, dgCons, dgNil, dAug, dAugS2, dAugF, dBM, dBM0, dChain, dYes, dSl, dPart, dNoPart, wSl, wLt, wLe, wGt, wGe, wI, wI0, wAdd, wSub, wMod, wDiv, wPow, wMul, wEq, wEqB, wNe, wIsN, wIsB, wLen, wInt, wMax2, wMin2, wI2, wIxA, wSet, wGetC, wIp, wTupleOf, wStrI, wIsi, wIn, wInT, wAppend, wPop, wInsert, wLM, wGet, dkey, startD, tru, dty, lq, dRevL, putD, CDiv, CMul, CPow, setc_same, setc_setc]
        refine ⟨y :: l, rfl, c2, by omega, fun cs5 e5 => ?_⟩
        simp [-List.lookup_eq_none_iff, dSeq, dIf, dB, dOp, dVar, dC, dUn, dAsg, dCB, dCons, dNil, dgName, dgSub, dRet, dRetN, dDrop, dNext, dBreak, dCont, dNever, dIfE, dAnd, dOr, dNot, dTru, dAndV, dOrV, dNotV, dTup, dLst, nF, nC, dFld, dSetF, dCall, dMeth, dMake, dPar, dPar3, dgTup, dgCons, dgNil, dAug, dAugS2, dAugF, dBM, dBM0, dChain, dYes, dSl, dPart, dNoPart, wSl, wLt, wLe, wGt, wGe, wI, wI0, wAdd, wSub, wMod, wDiv, wPow, wMul, wEq, wEqB, wNe, wIsN, wIsB, wLen, wInt, wMax2, wMin2, wI2, wIxA, wSet, wGetC, wIp, wTupleOf, wStrI, wIsi, wIn, wInT, wAppend, wPop, wInsert, wLM, wGet, dkey, startD, tru, dty, lq, dRevL, putD, CDiv, CMul, CPow, setc_same, setc_setc]
        exact h1 _ _ ⟨rfl, s4.ext e5⟩
      · simp [q]
        exact h1 _ _ ⟨rfl, s⟩
  rintro _ cs4 ⟨rfl, s4⟩
  refine cut (fun ρ' cs' => ρ' = [some (.cell a), some (eC l), none, none] ∧ Src cs' a) (fun B hB => ?_) ?_
  · refine cutif (fun b cs' => Src cs' a) (fun B1 h1 => ?_) ?_ ?_
    · simp [-List.lookup_eq_none_iff, dSeq, dIf, dB, dOp, dVar, dC, dUn, dAsg, dCB, dCons, dNil, dgName, dgSub, dRet, dRetN, dDrop, dNext, dBreak, dCont, dNever, dIfE, dAnd, dOr, dNot, dTru, dAndV, dOrV, dNotV, dTup, dLst, nF, nC, dFld, dSetF, dCall, dMeth, dMake, dPar, dPar3, dgTup, dgCons, dgNil, dAug, dAugS2, dAugF, dBM, dBM0, dChain, dYes, dSl, dPart, dNoPart, wSl, wLt, wLe, wGt, wGe, wI, wI0, wAdd, wSub, wMod, wDiv, wPow, wMul, wEq, wEqB, wNe, wIsN, wIsB, wLen, wInt, wMax2, wMin2, wI2, wIxA, wSet, wGetC, wIp, wTupleOf, wStrI, wIsi, wIn, wInT, wAppend, wPop, wInsert, wLM, wGet, dkey, startD, tru, dty, lq, dRevL, putD, CDiv, CMul, CPow, setc_same, setc_setc]
      exact ⟨a, 24, rfl, s4, by omega, by omega, fun cs' g s o g0 g1 => h1 _ _ s⟩
    · intro cs5 s5
      simp [-List.lookup_eq_none_iff, dSeq, dIf, dB, dOp, dVar, dC, dUn, dAsg, dCB, dCons, dNil, dgName, dgSub, dRet, dRetN, dDrop, dNext, dBreak, dCont, dNever, dIfE, dAnd, dOr, dNot, dTru, dAndV, dOrV, dNotV, dTup, dLst, nF, nC, dFld, dSetF, dCall, dMeth, dMake, dPar, dPar3, dgTup, dgCons, dgNil, dAug, dAugS2, dAugF, dBM, dBM0, dChain, dYes, dSl, dPart, dNoPart, wSl, wLt, wLe, wGt, wGe, wI, wI0, wAdd, wSub, wMod, wDiv, wPow, wMul, wEq, wEqB, wNe, wIsN, wIsB, wLen, wInt, wMax2, wMin2, wI2, wIxA, wSet, wGetC, wIp, wTupleOf, wStrI, wIsi, wIn, wInT, wAppend, wPop, wInsert, wLM, wGet, dkey, startD, tru, dty, lq, dRevL, putD, CDiv, CMul, CPow, setc_same, setc_setc]
      exact h _
    · intro cs5 s5
      simp [-List.lookup_eq_none_iff, dSeq, dIf, dB, dOp, dVar, dC, dUn, dAsg, dCB, dCons, dNil, dgName, dgSub, dRet, dRetN, dDrop, dNext, dBreak, dCont, dNever, dIfE, dAnd, dOr, dNot, dTru, dAndV, dOrV, dNotV, dTup, dLst, nF, nC, dFld, dSetF, dCall, dMeth, dMake, dPar, dPar3, dgTup, dgCons, dgNil, dAug, dAugS2, dAugF, dBM, dBM0, dChain, dYes, dSl, dPart, dNoPart, wSl, wLt, wLe, wGt, wGe, wI, wI0, wAdd, wSub, wMod, wDiv, wPow, wMul, wEq, wEqB, wNe, wIsN, wIsB, wLen, wInt, wMax2, wMin2, wI2, wIxA, wSet, wGetC, wIp, wTupleOf, wStrI, wIsi, wIn, wInT, wAppend, wPop, wInsert, wLM, wGet, dkey, startD, tru, dty, lq, dRevL, putD, CDiv, CMul, CPow, setc_same, setc_setc]
      exact hB _ _ ⟨rfl, s5⟩
  rintro _ cs5 ⟨rfl, s5⟩
  refine cut (fun ρ' cs' => ∃ s : Int, 1 ≤ s ∧ s ≤ 5 ∧ ρ' = [some (.cell a), some (eC l), some (.int s), none]) (fun B hB => ?_) ?_
  · simp [-List.lookup_eq_none_iff, dSeq, dIf, dB, dOp, dVar, dC, dUn, dAsg, dCB, dCons, dNil, dgName, dgSub, dRet, dRetN, dDrop, dNext, dBreak, dCont, dNever, dIfE, dAnd, dOr, dNot, dTru, dAndV, dOrV, dNotV, dTup, dLst, nF, nC, dFld, dSetF, dCall, dMeth, dMake, dPar, dPar3, dgTup, dgCons, dgNil, dAug, dAugS2, dAugF, dBM, dBM0, dChain, dYes, dSl, dPart, dNoPart, wSl, wLt, wLe, wGt, wGe, wI, wI0, wAdd, wSub, wMod, wDiv, wPow, wMul, wEq, wEqB, wNe, wIsN, wIsB, wLen, wInt, wMax2, wMin2, wI2, wIxA, wSet, wGetC, wIp, wTupleOf, wStrI, wIsi, wIn, wInT, wAppend, wPop, wInsert, wLM, wGet, dkey, startD, tru, dty, lq, dRevL, putD, CDiv, CMul, CPow, setc_same, setc_setc]
    exact ⟨a, 5, rfl, s5, by omega, by omega, fun cs' g s o g0 g1 => hB _ _ ⟨1 + g, by omega, by omega, rfl⟩⟩
  rintro _ cs6 ⟨s, y0, y1, rfl⟩
  simp [-List.lookup_eq_none_iff, dSeq, dIf, dB, dOp, dVar, dC, dUn, dAsg, dCB, dCons, dNil, dgName, dgSub, dRet, dRetN, dDrop, dNext, dBreak, dCont, dNever, dIfE, dAnd, dOr, dNot, dTru, dAndV, dOrV, dNotV, dTup, dLst, nF, nC, dFld, dSetF, dCall, dMeth, dMake, dPar, dPar3, dgTup, dgCons, dgNil, dAug, dAugS2, dAugF, dBM, dBM0, dChain, dYes, dSl, dPart, dNoPart, wSl, wLt, wLe, wGt, wGe, wI, wI0, wAdd, wSub, wMod, wDiv, wPow, wMul, wEq, wEqB, wNe, wIsN, wIsB, wLen, wInt, wMax2, wMin2, wI2, wIxA, wSet, wGetC, wIp, wTupleOf, wStrI, wIsi, wIn, wInT, wAppend, wPop, wInsert, wLM, wGet, dkey, startD, tru, dty, lq, dRevL, putD, CDiv, CMul, CPow, setc_same, setc_setc, dLc_eq, diRng1]
  refine lc_gen (fun i => ((List.range i).map fun i : Nat => ((i : Int), 1 + ((i : Int) * s) % 11)).map pD) trivial (by simp [rng]) rfl (fun i x hx B hB => ?_) ?_
  · obtain ⟨hi, rfl⟩ := rng_get hx
    rw [Int.zero_add]
    simp [-List.lookup_eq_none_iff, dSeq, dIf, dB, dOp, dVar, dC, dUn, dAsg, dCB, dCons, dNil, dgName, dgSub, dRet, dRetN, dDrop, dNext, dBreak, dCont, dNever, dIfE, dAnd, dOr, dNot, dTru, dAndV, dOrV, dNotV, dTup, dLst, nF, nC, dFld, dSetF, dCall, dMeth, dMake, dPar, dPar3, dgTup, dgCons, dgNil, dAug, dAugS2, dAugF, dBM, dBM0, dChain, dYes, dSl, dPart, dNoPart, wSl, wLt, wLe, wGt, wGe, wI, wI0, wAdd, wSub, wMod, wDiv, wPow, wMul, wEq, wEqB, wNe, wIsN, wIsB, wLen, wInt, wMax2, wMin2, wI2, wIxA, wSet, wGetC, wIp, wTupleOf, wStrI, wIsi, wIn, wInT, wAppend, wPop, wInsert, wLM, wGet, dkey, startD, tru, dty, lq, dRevL, putD, CDiv, CMul, CPow, setc_same, setc_setc, wipeD]
    rw [range_map_succ, List.map_append] at hB
    refine ⟨.inl ⟨by omega, by omega⟩, ?_⟩
    simp only [List.map_map] at hB
    exact hB
  · rw [rng_length]
    simp [-List.lookup_eq_none_iff, dSeq, dIf, dB, dOp, dVar, dC, dUn, dAsg, dCB, dCons, dNil, dgName, dgSub, dRet, dRetN, dDrop, dNext, dBreak, dCont, dNever, dIfE, dAnd, dOr, dNot, dTru, dAndV, dOrV, dNotV, dTup, dLst, nF, nC, dFld, dSetF, dCall, dMeth, dMake, dPar, dPar3, dgTup, dgCons, dgNil, dAug, dAugS2, dAugF, dBM, dBM0, dChain, dYes, dSl, dPart, dNoPart, wSl, wLt, wLe, wGt, wGe, wI, wI0, wAdd, wSub, wMod, wDiv, wPow, wMul, wEq, wEqB, wNe, wIsN, wIsB, wLen, wInt, wMax2, wMin2, wI2, wIxA, wSet, wGetC, wIp, wTupleOf, wStrI, wIsi, wIn, wInT, wAppend, wPop, wInsert, wLM, wGet, dkey, startD, tru, dty, lq, dRevL, putD, CDiv, CMul, CPow, setc_same, setc_setc]
    refine ⟨(List.range 256).map fun i : Nat => ((i : Int), 1 + ((i : Int) * s) % 11), ?_, clo_all y0 y1, by simp, fun cs' e => h _⟩
    simp [rng, eC]
theorem eRow2 : eRow (mkT [(1, 7), (1, 256), (2, 5)]) = .tup [.tup [.int 7, .int 1, .int 3], .tup [.int 256, .int 1, .int 3], .tup [.int 5, .int 2, .int 4], .tup [.int (-1), .int 2, .int 4], .tup [.int (-1), .int 4, .int (-1)]] := rfl
theorem eRow0 : eRow (mkT [(1, 256)]) = .tup [.tup [.int 256, .int 1, .int (-1)]] := rfl
theorem srt2 : SortedOf [(5, 2), (7, 1)] [(1, 7), (1, 256), (2, 5)] := by
  refine ⟨by decide, by decide⟩
theorem srt0 : SortedOf [] [(1, 256)] := ⟨by decide, by decide⟩
theorem clo2 : CLo [(5, 2), (7, 1)] := ⟨by decide, by decide, by decide⟩
theorem clo0 : CLo [] := ⟨by decide, by decide, by decide⟩
theorem h_law (cl : Str → Addr) : DOk (P_law cl) (w_law cl) 2 := by
  rintro ds cs Φ Ψ ⟨ns, rfl, n63, rfl, h⟩
  unfold w_law
  refine cut (fun ρ' cs' => ∃ b, ρ' = [some (.rl (ns.map D.int)), b]) (fun B hB => ?_) ?_
  · rw [dFor_eq]
    simp [-List.lookup_eq_none_iff, dSeq, dIf, dB, dOp, dVar, dC, dUn, dAsg, dCB, dCons, dNil, dgName, dgSub, dRet, dRetN, dDrop, dNext, dBreak, dCont, dNever, dIfE, dAnd, dOr, dNot, dTru, dAndV, dOrV, dNotV, dTup, dLst, nF, nC, dFld, dSetF, dCall, dMeth, dMake, dPar, dPar3, dgTup, dgCons, dgNil, dAug, dAugS2, dAugF, dBM, dBM0, dChain, dYes, dSl, dPart, dNoPart, wSl, wLt, wLe, wGt, wGe, wI, wI0, wAdd, wSub, wMod, wDiv, wPow, wMul, wEq, wEqB, wNe, wIsN, wIsB, wLen, wInt, wMax2, wMin2, wI2, wIxA, wSet, wGetC, wIp, wTupleOf, wStrI, wIsi, wIn, wInT, wAppend, wPop, wInsert, wLM, wGet, dkey, startD, tru, dty, lq, dRevL, putD, CDiv, CMul, CPow, setc_same, setc_setc, diRng1]
    refine ⟨by omega, by omega, ?_⟩
    refine for_gen (fun i ρ' cs' => ∃ b, ρ' = [some (.rl (ns.map D.int)), b]) ⟨_, rfl⟩ (fun _ _ _ _ => trivial) ?_ (fun ρ2 cs2 q => hB _ _ q)
    rintro i _ cs0 x ⟨o1, rfl⟩ hx C hC
    obtain ⟨hi, rfl⟩ := rng_get hx
    obtain ⟨k, ek⟩ : ∃ k : Int, (0 : Int) + (i : Int) = k := ⟨_, rfl⟩
    rw [ek]
    have k0 : 0 ≤ k := by omega
    have k1 : k < 1000 := by omega
    simp [-List.lookup_eq_none_iff, dSeq, dIf, dB, dOp, dVar, dC, dUn, dAsg, dCB, dCons, dNil, dgName, dgSub, dRet, dRetN, dDrop, dNext, dBreak, dCont, dNever, dIfE, dAnd, dOr, dNot, dTru, dAndV, dOrV, dNotV, dTup, dLst, nF, nC, dFld, dSetF, dCall, dMeth, dMake, dPar, dPar3, dgTup, dgCons, dgNil, dAug, dAugS2, dAugF, dBM, dBM0, dChain, dYes, dSl, dPart, dNoPart, wSl, wLt, wLe, wGt, wGe, wI, wI0, wAdd, wSub, wMod, wDiv, wPow, wMul, wEq, wEqB, wNe, wIsN, wIsB, wLen, wInt, wMax2, wMin2, wI2, wIxA, wSet, wGetC, wIp, wTupleOf, wStrI, wIsi, wIn, wInT, wAppend, wPop, wInsert, wLM, wGet, dkey, startD, tru, dty, lq, dRevL, putD, CDiv, CMul, CPow, setc_same, setc_setc]
    refine ⟨ns, k, rfl, k0, k1, n63, fun x y x0 y0 y1 p hp => ?_⟩
    refine ⟨p, rfl, Src.set x0 y0 y1, fun cs2 => ?_⟩
    simp [-List.lookup_eq_none_iff, dSeq, dIf, dB, dOp, dVar, dC, dUn, dAsg, dCB, dCons, dNil, dgName, dgSub, dRet, dRetN, dDrop, dNext, dBreak, dCont, dNever, dIfE, dAnd, dOr, dNot, dTru, dAndV, dOrV, dNotV, dTup, dLst, nF, nC, dFld, dSetF, dCall, dMeth, dMake, dPar, dPar3, dgTup, dgCons, dgNil, dAug, dAugS2, dAugF, dBM, dBM0, dChain, dYes, dSl, dPart, dNoPart, wSl, wLt, wLe, wGt, wGe, wI, wI0, wAdd, wSub, wMod, wDiv, wPow, wMul, wEq, wEqB, wNe, wIsN, wIsB, wLen, wInt, wMax2, wMin2, wI2, wIxA, wSet, wGetC, wIp, wTupleOf, wStrI, wIsi, wIn, wInT, wAppend, wPop, wInsert, wLM, wGet, dkey, startD, tru, dty, lq, dRevL, putD, CDiv, CMul, CPow, setc_same, setc_setc]
    exact hC _ _ ⟨_, rfl⟩
  rintro _ cs1 ⟨b, rfl⟩
  refine cut (fun ρ' cs' => ρ' = [some (.rl (ns.map D.int)), b]) (fun B hB => ?_) ?_
  · simp [-List.lookup_eq_none_iff, dSeq, dIf, dB, dOp, dVar, dC, dUn, dAsg, dCB, dCons, dNil, dgName, dgSub, dRet, dRetN, dDrop, dNext, dBreak, dCont, dNever, dIfE, dAnd, dOr, dNot, dTru, dAndV, dOrV, dNotV, dTup, dLst, nF, nC, dFld, dSetF, dCall, dMeth, dMake, dPar, dPar3, dgTup, dgCons, dgNil, dAug, dAugS2, dAugF, dBM, dBM0, dChain, dYes, dSl, dPart, dNoPart, wSl, wLt, wLe, wGt, wGe, wI, wI0, wAdd, wSub, wMod, wDiv, wPow, wMul, wEq, wEqB, wNe, wIsN, wIsB, wLen, wInt, wMax2, wMin2, wI2, wIxA, wSet, wGetC, wIp, wTupleOf, wStrI, wIsi, wIn, wInT, wAppend, wPop, wInsert, wLM, wGet, dkey, startD, tru, dty, lq, dRevL, putD, CDiv, CMul, CPow, setc_same, setc_setc]
    refine ⟨[(5, 2), (7, 1)], rfl, by decide, fun cs' e => ⟨fun _ ls so r n => ?_, fun C v hf => ?_⟩⟩
    · have := sorted_uniq clo2 so srt2
      subst this
      refine ⟨shal_rowT, eRow2 ▸ shal_rowT, ?_⟩
      rw [eRow2]
      simp [-List.lookup_eq_none_iff, dSeq, dIf, dB, dOp, dVar, dC, dUn, dAsg, dCB, dCons, dNil, dgName, dgSub, dRet, dRetN, dDrop, dNext, dBreak, dCont, dNever, dIfE, dAnd, dOr, dNot, dTru, dAndV, dOrV, dNotV, dTup, dLst, nF, nC, dFld, dSetF, dCall, dMeth, dMake, dPar, dPar3, dgTup, dgCons, dgNil, dAug, dAugS2, dAugF, dBM, dBM0, dChain, dYes, dSl, dPart, dNoPart, wSl, wLt, wLe, wGt, wGe, wI, wI0, wAdd, wSub, wMod, wDiv, wPow, wMul, wEq, wEqB, wNe, wIsN, wIsB, wLen, wInt, wMax2, wMin2, wI2, wIxA, wSet, wGetC, wIp, wTupleOf, wStrI, wIsi, wIn, wInT, wAppend, wPop, wInsert, wLM, wGet, dkey, startD, tru, dty, lq, dRevL, putD, CDiv, CMul, CPow, setc_same, setc_setc, deq, deqs]
      exact hB _ _ rfl
    · rw [(fault_clo clo2.len).mpr clo2] at hf; cases hf
  rintro _ cs2 rfl
  simp [-List.lookup_eq_none_iff, dSeq, dIf, dB, dOp, dVar, dC, dUn, dAsg, dCB, dCons, dNil, dgName, dgSub, dRet, dRetN, dDrop, dNext, dBreak, dCont, dNever, dIfE, dAnd, dOr, dNot, dTru, dAndV, dOrV, dNotV, dTup, dLst, nF, nC, dFld, dSetF, dCall, dMeth, dMake, dPar, dPar3, dgTup, dgCons, dgNil, dAug, dAugS2, dAugF, dBM, dBM0, dChain, dYes, dSl, dPart, dNoPart, wSl, wLt, wLe, wGt, wGe, wI, wI0, wAdd, wSub, wMod, wDiv, wPow, wMul, wEq, wEqB, wNe, wIsN, wIsB, wLen, wInt, wMax2, wMin2, wI2, wIxA, wSet, wGetC, wIp, wTupleOf, wStrI, wIsi, wIn, wInT, wAppend, wPop, wInsert, wLM, wGet, dkey, startD, tru, dty, lq, dRevL, putD, CDiv, CMul, CPow, setc_same, setc_setc]
  refine ⟨[], rfl, by decide, fun cs' e => ⟨fun _ ls so r n => ?_, fun C v hf => ?_⟩⟩
  · have := sorted_uniq clo0 so srt0
    subst this
    refine ⟨shal_rowT, eRow0 ▸ shal_rowT, ?_⟩
    rw [eRow0]
    simp [-List.lookup_eq_none_iff, dSeq, dIf, dB, dOp, dVar, dC, dUn, dAsg, dCB, dCons, dNil, dgName, dgSub, dRet, dRetN, dDrop, dNext, dBreak, dCont, dNever, dIfE, dAnd, dOr, dNot, dTru, dAndV, dOrV, dNotV, dTup, dLst, nF, nC, dFld, dSetF, dCall, dMeth, dMake, dPar, dPar3, dgTup, dgCons, dgNil, dAug, dAugS2, dAugF, dBM, dBM0, dChain, dYes, dSl, dPart, dNoPart, wSl, wLt, wLe, wGt, wGe, wI, wI0, wAdd, wSub, wMod, wDiv, wPow, wMul, wEq, wEqB, wNe, wIsN, wIsB, wLen, wInt, wMax2, wMin2, wI2, wIxA, wSet, wGetC, wIp, wTupleOf, wStrI, wIsi, wIn, wInT, wAppend, wPop, wInsert, wLM, wGet, dkey, startD, tru, dty, lq, dRevL, putD, CDiv, CMul, CPow, setc_same, setc_setc, deq, deqs]
    exact h _
  · rw [(fault_clo clo0.len).mpr clo0] at hf; cases hf
end LS
namespace LS
open PySem PySem.Spec PyProof.Rows L2 DL

def top (i : Nat) : Stmt := PySem.Challenge.pw_leastsofar_k03_rows_made.main.body.getD i (.Pass ⟨0, 0, 0, 0⟩)
def clsB (s : Stmt) : List Stmt := match s with
  | .ClassDef _ _ _ b _ _ _ _ _ _ _ => b
  | _ => []
def mth (i j : Nat) : Stmt := (clsB (top i)).getD j (.Pass ⟨0, 0, 0, 0⟩)
structure HF (K : PySem.W.Frag) (mg : Str → Option Value) (cl : Str → Addr) : Prop where
  c_Making : Cls K (cl "Making")
  f_all : mg "all" = none
  f_bool : mg "bool" = none
  f_enumerate : mg "enumerate" = none
  f_int : mg "int" = none
  f_isinstance : mg "isinstance" = none
  f_len : mg "len" = none
  f_max : mg "max" = none
  f_min : mg "min" = none
  f_range : mg "range" = none
  f_set : mg "set" = none
  f_sorted : mg "sorted" = none
  f_sum : mg "sum" = none
  f_tuple : mg "tuple" = none
  g_BadCount : mg "BadCount" = some (.ref (cl "BadCount"))
  g_BadLetter : mg "BadLetter" = some (.ref (cl "BadLetter"))
  g_Refused : mg "Refused" = some (.ref (cl "Refused"))
  i_ESCAPE : ∃ t, mg "ESCAPE" = some (.int (256) t)
  i_MOST_COUNT : ∃ t, mg "MOST_COUNT" = some (.int (1000000) t)
  i_MOST_JOINTS : ∃ t, mg "MOST_JOINTS" = some (.int (513) t)
  i_PAIR : ∃ t, mg "PAIR" = some (.int (-1) t)
  n_Making_leaves : NoAttr K (cl "Making") "leaves"
  n_Making_pairs : NoAttr K (cl "Making") "pairs"
  n_Making_row : NoAttr K (cl "Making") "row"
section
variable {P : Program} {w : World} {K : PySem.W.Frag} {mg : Str → Option Value} {base : Heap} {cl : Str → Addr} {f : Addr} {cdv : Value} {A : Around} {outer : List Env} {s : Shared} {H : Hp} {E : XK}

abbrev N_is_whole : List Str := ["thing"]
theorem sc_is_whole : FnScope N_is_whole ["thing"] (defScope (top 8)) := ⟨rfl, rfl, rfl, by decide +kernel, rfl, by decide +kernel, by decide +kernel⟩
set_option maxHeartbeats 2000000 in
theorem d_is_whole (hf : HF K mg cl)  (hr : Room 0 (A.deeper (envOfC "is_whole" (defScope (top 8)) s.heap.objs.size f cdv))) :
    ∃ ts, QSs (cxOf (L2.CX P w) P w K mg base N_is_whole "is_whole" (defScope (top 8)) f cdv A outer s H E) (WEx E) (defBody (top 8)) ts (w_is_whole cl) := by
  have tk : Takes (cxOf (L2.CX P w) P w K mg base N_is_whole "is_whole" (defScope (top 8)) f cdv A outer s H E) (WEx E) := takes_of rfl rfl rfl rfl
  have hu := hu_of hr
  exact ⟨_, (qss_one (qs_ret (qe_and (qe_callBK (K := K) rfl (cb_isiK (K := K) rfl) simIsi rfl hf.f_isinstance bt_isinstance (qa_cons (qe_var (pv 0)) (qa_cons (qe_ty hf.f_int rfl bt_int) qa_nil))) (qe_one (qe_not (qe_callBK (K := K) rfl (cb_isiK (K := K) rfl) simIsi rfl hf.f_isinstance bt_isinstance (qa_cons (qe_var (pv 0)) (qa_cons (qe_ty hf.f_bool rfl bt_bool) qa_nil))))))))⟩

abbrev N_want_letter : List Str := ["letter"]
theorem sc_want_letter : FnScope N_want_letter ["letter"] (defScope (top 9)) := ⟨rfl, rfl, rfl, by decide +kernel, rfl, by decide +kernel, by decide +kernel⟩
set_option maxHeartbeats 2000000 in
theorem d_want_letter (hf : HF K mg cl) (r_BadLetter : RsOk P w K mg base 1 "BadLetter" (cl "BadLetter") (cl "Refused")) (hr : Room 2 (A.deeper (envOfC "want_letter" (defScope (top 9)) s.heap.objs.size f cdv))) :
    ∃ ts, QSs (cxOf (L2.CX P w) P w K mg base N_want_letter "want_letter" (defScope (top 9)) f cdv A outer s H E) (WEx E) (defBody (top 9)) ts (w_want_letter cl) := by
  have tk : Takes (cxOf (L2.CX P w) P w K mg base N_want_letter "want_letter" (defScope (top 9)) f cdv A outer s H E) (WEx E) := takes_of rfl rfl rfl rfl
  have hu := hu_of hr
  exact ⟨_, (qss_one (qs_if (qt_not (qt_chainK (K := K) rfl op_le (simI0 fun _ _ _ => .bl _) op_lt (simI0 fun _ _ _ => .bl _) qe_int (qe_var (pv 0)) (qe_gintE hf.i_ESCAPE rfl))) (qss_one (qs_raise r_BadLetter (hr.mono (by decide)) rfl tk rfl (qa_cons (qe_var (pv 0)) qa_nil))) qss_nil))⟩

abbrev N_want_counts : List Str := ["counts", "before", "index", "letter", "count"]
theorem sc_want_counts : FnScope N_want_counts ["counts"] (defScope (top 10)) := ⟨rfl, rfl, rfl, by decide +kernel, rfl, by decide +kernel, by decide +kernel⟩
set_option maxHeartbeats 2000000 in
theorem d_want_counts (hf : HF K mg cl) (c_want_letter : DefOk P w K mg base 3 "want_letter" ["letter"] (P_want_letter cl)) (r_BadCount : RsOk P w K mg base 1 "BadCount" (cl "BadCount") (cl "Refused")) (hr : Room 3 (A.deeper (envOfC "want_counts" (defScope (top 10)) s.heap.objs.size f cdv))) :
    ∃ ts, QSs (cxOf (L2.CX P w) P w K mg base N_want_counts "want_counts" (defScope (top 10)) f cdv A outer s H E) (WEx E) (defBody (top 10)) ts (w_want_counts cl) := by
  have tk : Takes (cxOf (L2.CX P w) P w K mg base N_want_counts "want_counts" (defScope (top 10)) f cdv A outer s H E) (WEx E) := takes_of rfl rfl rfl rfl
  have hu := hu_of hr
  exact ⟨_, (qss_cons (qs_setN (i := 1) sc_want_counts.nd rfl (Or.inl rfl) (qe_neg qe_int))
    (qss_one (qs_for (passes_of rfl) rfl (qi_enum rfl hf.f_enumerate (qa_cons (qe_var (pv 0)) qa_nil)) (qg_tupK (K := K) rfl rfl (qgs_cons (qg_name (pg_name (i := 2) sc_want_counts.nd rfl (Or.inl rfl))) (qgs_cons (qg_tupK (K := K) rfl rfl (qgs_cons (qg_name (pg_name (i := 3) sc_want_counts.nd rfl (Or.inl rfl))) (qgs_cons (qg_name (pg_name (i := 4) sc_want_counts.nd rfl (Or.inl rfl))) qgs_nil))) qgs_nil))) (qss_cons (qs_expr (qe_callDK (K := K) rfl c_want_letter (hr.mono (by decide)) tk rfl (qa_cons (qe_var (pv 3)) qa_nil)))
    (qss_cons (qs_if (QW.pt (qw_or (qt_cmpK (K := K) rfl op_le (simI0 fun _ _ _ => .bl _) (qe_var (pv 3)) (qe_var (pv 1)) (nomark _)) (qw_or1 (qt_not (qt_chainK (K := K) rfl op_le (simI0 fun _ _ _ => .bl _) op_le (simI0 fun _ _ _ => .bl _) qe_int (qe_var (pv 4)) (qe_gintE hf.i_MOST_COUNT rfl)))))) (qss_one (qs_raise r_BadCount (hr.mono (by decide)) rfl tk rfl (qa_cons (qe_var (pv 2)) qa_nil))) qss_nil)
    (qss_one (qs_setN (i := 1) sc_want_counts.nd rfl (Or.inl rfl) (qe_var (pv 3)))))))))⟩

abbrev N_is_joint : List Str := ["thing", "number"]
theorem sc_is_joint : FnScope N_is_joint ["thing"] (defScope (top 14)) := ⟨rfl, rfl, rfl, by decide +kernel, rfl, by decide +kernel, by decide +kernel⟩
set_option maxHeartbeats 2000000 in
theorem d_is_joint (hf : HF K mg cl) (c_is_whole : DefOk P w K mg base 1 "is_whole" ["thing"] (P_is_whole cl)) (hr : Room 1 (A.deeper (envOfC "is_joint" (defScope (top 14)) s.heap.objs.size f cdv))) :
    ∃ ts, QSs (cxOf (L2.CX P w) P w K mg base N_is_joint "is_joint" (defScope (top 14)) f cdv A outer s H E) (WEx E) (defBody (top 14)) ts (w_is_joint cl) := by
  have tk : Takes (cxOf (L2.CX P w) P w K mg base N_is_joint "is_joint" (defScope (top 14)) f cdv A outer s H E) (WEx E) := takes_of rfl rfl rfl rfl
  have hu := hu_of hr
  exact ⟨_, (qss_cons (qs_if (QW.pt (qw_or (qt_not (qt_truK (K := K) rfl (qe_callBK (K := K) rfl (cb_isiK (K := K) rfl) simIsi rfl hf.f_isinstance bt_isinstance (qa_cons (qe_var (pv 0)) (qa_cons (qe_ty hf.f_tuple rfl bt_tuple) qa_nil))) (fun _ => rfl))) (qw_or1 (qt_cmpK (K := K) rfl (op_neK (K := K) rfl hr.units) simNe (qe_callBK (K := K) rfl (cb_lenK (K := K) rfl) simLen rfl hf.f_len bt_len (qa_cons (qe_var (pv 0)) qa_nil)) qe_int (nomark _))))) (qss_one (qs_ret qe_bl)) qss_nil)
    (qss_one (qs_ret (qe_and (qe_callBK (K := K) rfl (cb_allK (K := K) rfl rfl) simAll rfl hf.f_all bt_all (qa_cons (qe_lc0 [("number", 1)] okF rfl sc_is_joint.nd (qi_seq (qe_var (pv 0))) (blkOk_by (own := [("number", 1)]) (N := N_is_joint) (sc := defScope (top 14)) (by decide +kernel)) (fun _ _ _ _ _ => (qg_name (pg_name (i := 1) sc_is_joint.nd rfl (Or.inl rfl)))) (tok_name (by decide)) (fun _ _ _ _ _ => (qe_callDK (K := K) rfl c_is_whole (hr.mono (by decide)) tk0 rfl (qa_cons (qe_var (pv 1)) qa_nil)))) qa_nil)) (qe_one (qe_chainK (K := K) rfl op_le (simI0 fun _ _ _ => .bl _) op_le (simI0 fun _ _ _ => .bl _) (qe_gintE hf.i_PAIR rfl) (qe_ixK (K := K) rfl hu (qe_var (pv 0)) qe_int (fun _ _ => rfl)) (qe_gintE hf.i_ESCAPE rfl)))))))⟩

abbrev N_leaves_fit : List Str := ["row", "leaves", "kinds", "kind", "count", "_"]
theorem sc_leaves_fit : FnScope N_leaves_fit ["row"] (defScope (top 15)) := ⟨rfl, rfl, rfl, by decide +kernel, rfl, by decide +kernel, by decide +kernel⟩
set_option maxHeartbeats 2000000 in
theorem d_leaves_fit (hf : HF K mg cl)  (hr : Room 0 (A.deeper (envOfC "leaves_fit" (defScope (top 15)) s.heap.objs.size f cdv))) :
    ∃ ts, QSs (cxOf (L2.CX P w) P w K mg base N_leaves_fit "leaves_fit" (defScope (top 15)) f cdv A outer s H E) (WEx E) (defBody (top 15)) ts (w_leaves_fit cl) := by
  have tk : Takes (cxOf (L2.CX P w) P w K mg base N_leaves_fit "leaves_fit" (defScope (top 15)) f cdv A outer s H E) (WEx E) := takes_of rfl rfl rfl rfl
  have hu := hu_of hr
  exact ⟨_, (qss_cons (qs_lc1 (i := 1) [("kind", 3), ("count", 4), ("_", 5)] okF rfl sc_leaves_fit.nd rfl rfl (sw_true rfl rfl rfl (by decide +kernel)) (qi_seq (qe_var (pv 0))) (blkOk_by (own := [("kind", 3), ("count", 4), ("_", 5)]) (N := N_leaves_fit) (sc := defScope (top 15)) (by decide +kernel)) (fun _ _ _ _ _ => (qg_tupK (K := K) rfl rfl (qgs_cons (qg_name (pg_name (i := 3) sc_leaves_fit.nd rfl (Or.inl rfl))) (qgs_cons (qg_name (pg_name (i := 4) sc_leaves_fit.nd rfl (Or.inl rfl))) (qgs_cons (qg_name (pg_name (i := 5) sc_leaves_fit.nd rfl (Or.inl rfl))) qgs_nil))))) (tok_seq (tok_cons (tok_name (by decide)) (tok_cons (tok_name (by decide)) (tok_cons (tok_name (by decide)) tok_nil)))) (fun _ _ _ _ _ => (qt_cmpK (K := K) rfl (op_neK (K := K) rfl hr.units) simNe (qe_var (pv 3)) (qe_gintE hf.i_PAIR rfl) (nomark _))) (fun _ _ _ _ _ => (qe_tup (qa_cons (qe_var (pv 3)) (qa_cons (qe_var (pv 4)) qa_nil)))))
    (qss_cons (qs_lc0 (i := 2) [("kind", 3), ("_", 5)] okF rfl sc_leaves_fit.nd rfl rfl (sw_true rfl rfl rfl (by decide +kernel)) (qi_seq (qe_var (pv 1))) (blkOk_by (own := [("kind", 3), ("_", 5)]) (N := N_leaves_fit) (sc := defScope (top 15)) (by decide +kernel)) (fun _ _ _ _ _ => (qg_tupK (K := K) rfl rfl (qgs_cons (qg_name (pg_name (i := 3) sc_leaves_fit.nd rfl (Or.inl rfl))) (qgs_cons (qg_name (pg_name (i := 5) sc_leaves_fit.nd rfl (Or.inl rfl))) qgs_nil)))) (tok_seq (tok_cons (tok_name (by decide)) (tok_cons (tok_name (by decide)) tok_nil))) (fun _ _ _ _ _ => (qe_var (pv 3))))
    (qss_cons (qs_if (QW.pt (qw_or (qt_cmpK (K := K) rfl (op_neK (K := K) rfl hr.units) simNe (qe_lenSet rfl rfl hf.f_len rfl hf.f_set (qe_var (pv 2))) (qe_callBK (K := K) rfl (cb_lenK (K := K) rfl) simLen rfl hf.f_len bt_len (qa_cons (qe_var (pv 2)) qa_nil)) (nomark _)) (qw_or1 (qt_cmpK (K := K) rfl (op_notInTK (K := K) rfl hr) (simInT (neg := true)) (qe_tup (qa_cons (qe_gintE hf.i_ESCAPE rfl) (qa_cons qe_int qa_nil))) (qe_var (pv 1)) (by with_unfolding_all rfl))))) (qss_one (qs_ret qe_bl)) qss_nil)
    (qss_one (qs_ret (qe_callBK (K := K) rfl (cb_allK (K := K) rfl rfl) simAll rfl hf.f_all bt_all (qa_cons (qe_lc0 [("_", 5), ("count", 4)] okF rfl sc_leaves_fit.nd (qi_seq (qe_var (pv 1))) (blkOk_by (own := [("_", 5), ("count", 4)]) (N := N_leaves_fit) (sc := defScope (top 15)) (by decide +kernel)) (fun _ _ _ _ _ => (qg_tupK (K := K) rfl rfl (qgs_cons (qg_name (pg_name (i := 5) sc_leaves_fit.nd rfl (Or.inl rfl))) (qgs_cons (qg_name (pg_name (i := 4) sc_leaves_fit.nd rfl (Or.inl rfl))) qgs_nil)))) (tok_seq (tok_cons (tok_name (by decide)) (tok_cons (tok_name (by decide)) tok_nil))) (fun _ _ _ _ _ => (qe_chainK (K := K) rfl op_le (simI0 fun _ _ _ => .bl _) op_le (simI0 fun _ _ _ => .bl _) qe_int (qe_var (pv 4)) (qe_gintE hf.i_MOST_COUNT rfl)))) qa_nil)))))))⟩

abbrev N_order_fits : List Str := ["row", "place"]
theorem sc_order_fits : FnScope N_order_fits ["row"] (defScope (top 16)) := ⟨rfl, rfl, rfl, by decide +kernel, rfl, by decide +kernel, by decide +kernel⟩
set_option maxHeartbeats 2000000 in
theorem d_order_fits (hf : HF K mg cl)  (hr : Room 0 (A.deeper (envOfC "order_fits" (defScope (top 16)) s.heap.objs.size f cdv))) :
    ∃ ts, QSs (cxOf (L2.CX P w) P w K mg base N_order_fits "order_fits" (defScope (top 16)) f cdv A outer s H E) (WEx E) (defBody (top 16)) ts (w_order_fits cl) := by
  have tk : Takes (cxOf (L2.CX P w) P w K mg base N_order_fits "order_fits" (defScope (top 16)) f cdv A outer s H E) (WEx E) := takes_of rfl rfl rfl rfl
  have hu := hu_of hr
  exact ⟨_, (qss_one (qs_ret (qe_callBK (K := K) rfl (cb_allK (K := K) rfl rfl) simAll rfl hf.f_all bt_all (qa_cons (qe_lc0 [("place", 1)] okF rfl sc_order_fits.nd (qi_rng1 rfl hf.f_range (qa_cons (qe_opK (K := K) rfl op_sub (simI0 fun _ _ _ => .int _) (qe_callBK (K := K) rfl (cb_lenK (K := K) rfl) simLen rfl hf.f_len bt_len (qa_cons (qe_var (pv 0)) qa_nil)) qe_int) qa_nil)) (blkOk_by (own := [("place", 1)]) (N := N_order_fits) (sc := defScope (top 16)) (by decide +kernel)) (fun _ _ _ _ _ => (qg_name (pg_name (i := 1) sc_order_fits.nd rfl (Or.inl rfl)))) (tok_name (by decide)) (fun _ _ _ _ _ => (qe_cmpK (K := K) rfl op_le (simI0 fun _ _ _ => .bl _) (qe_ixK (K := K) rfl hu (qe_ixK (K := K) rfl hu (qe_var (pv 0)) (qe_var (pv 1)) (fun _ _ => rfl)) qe_int (fun _ _ => rfl)) (qe_ixK (K := K) rfl hu (qe_ixK (K := K) rfl hu (qe_var (pv 0)) (qe_opK (K := K) rfl (op_addK (K := K) rfl) (simAdd okF) (qe_var (pv 1)) qe_int) (fun _ _ => rfl)) qe_int (fun _ _ => rfl)) (nomark _)))) qa_nil))))⟩

abbrev N_ups_fit : List Str := ["row", "sums", "place", "up", "kind", "count", "_"]
theorem sc_ups_fit : FnScope N_ups_fit ["row"] (defScope (top 17)) := ⟨rfl, rfl, rfl, by decide +kernel, rfl, by decide +kernel, by decide +kernel⟩
set_option maxHeartbeats 2000000 in
theorem d_ups_fit (hf : HF K mg cl)  (hr : Room 0 (A.deeper (envOfC "ups_fit" (defScope (top 17)) s.heap.objs.size f cdv))) :
    ∃ ts, QSs (cxOf (L2.CX P w) P w K mg base N_ups_fit "ups_fit" (defScope (top 17)) f cdv A outer s H E) (WEx E) (defBody (top 17)) ts (w_ups_fit cl) := by
  have tk : Takes (cxOf (L2.CX P w) P w K mg base N_ups_fit "ups_fit" (defScope (top 17)) f cdv A outer s H E) (WEx E) := takes_of rfl rfl rfl rfl
  have hu := hu_of hr
  exact ⟨_, (qss_cons (qs_if (qt_cmpK (K := K) rfl (op_neK (K := K) rfl hr.units) simNe (qe_ixK (K := K) rfl hu (qe_ixK (K := K) rfl hu (qe_var (pv 0)) (qe_neg qe_int) (fun _ _ => rfl)) qe_int (fun _ _ => rfl)) (qe_neg qe_int) (nomark _)) (qss_one (qs_ret qe_bl)) qss_nil)
    (qss_cons (qs_setN (i := 1) sc_ups_fit.nd rfl (Or.inr rfl) qe_newD)
    (qss_cons (qs_for (passes_of rfl) rfl (qi_rng3 rfl hf.f_range (qa_cons qe_int (qa_cons (qe_opK (K := K) rfl op_sub (simI0 fun _ _ _ => .int _) (qe_callBK (K := K) rfl (cb_lenK (K := K) rfl) simLen rfl hf.f_len bt_len (qa_cons (qe_var (pv 0)) qa_nil)) qe_int) (qa_cons qe_int qa_nil)))) (qg_name (pg_name (i := 2) sc_ups_fit.nd rfl (Or.inl rfl))) (qss_cons (qs_setN (i := 3) sc_ups_fit.nd rfl (Or.inl rfl) (qe_ixK (K := K) rfl hu (qe_ixK (K := K) rfl hu (qe_var (pv 0)) (qe_var (pv 2)) (fun _ _ => rfl)) qe_int (fun _ _ => rfl)))
    (qss_cons (qs_if (QW.pt (qw_or (qt_cmpK (K := K) rfl (op_neK (K := K) rfl hr.units) simNe (qe_ixK (K := K) rfl hu (qe_ixK (K := K) rfl hu (qe_var (pv 0)) (qe_opK (K := K) rfl (op_addK (K := K) rfl) (simAdd okF) (qe_var (pv 2)) qe_int) (fun _ _ => rfl)) qe_int (fun _ _ => rfl)) (qe_var (pv 3)) (nomark _)) (qw_or (qt_not (qt_chainK (K := K) rfl op_lt (simI0 fun _ _ _ => .bl _) op_lt (simI0 fun _ _ _ => .bl _) (qe_opK (K := K) rfl (op_addK (K := K) rfl) (simAdd okF) (qe_var (pv 2)) qe_int) (qe_var (pv 3)) (qe_callBK (K := K) rfl (cb_lenK (K := K) rfl) simLen rfl hf.f_len bt_len (qa_cons (qe_var (pv 0)) qa_nil)))) (qw_or (qt_cmpK (K := K) rfl (op_neK (K := K) rfl hr.units) simNe (qe_ixK (K := K) rfl hu (qe_ixK (K := K) rfl hu (qe_var (pv 0)) (qe_var (pv 3)) (fun _ _ => rfl)) qe_int (fun _ _ => rfl)) (qe_gintE hf.i_PAIR rfl) (nomark _)) (qw_or1 (qt_cmpK (K := K) rfl (op_inK (K := K) rfl hu) (simIn (neg := false)) (qe_var (pv 3)) (qe_var (pv 1)) (by with_unfolding_all rfl))))))) (qss_one (qs_ret qe_bl)) qss_nil)
    (qss_one (qs_asg (qe_opK (K := K) rfl (op_addK (K := K) rfl) (simAdd okF) (qe_ixK (K := K) rfl hu (qe_ixK (K := K) rfl hu (qe_var (pv 0)) (qe_var (pv 2)) (fun _ _ => rfl)) qe_int (fun _ _ => rfl)) (qe_ixK (K := K) rfl hu (qe_ixK (K := K) rfl hu (qe_var (pv 0)) (qe_opK (K := K) rfl (op_addK (K := K) rfl) (simAdd okF) (qe_var (pv 2)) qe_int) (fun _ _ => rfl)) qe_int (fun _ _ => rfl))) (qg_sub hu (qe_var (pv 1)) (qe_var (pv 3))))))))
    (qss_one (qs_ret (qe_callBK (K := K) rfl (cb_allK (K := K) rfl rfl) simAll rfl hf.f_all bt_all (qa_cons (qe_lc0 [("place", 2), ("kind", 4), ("count", 5), ("_", 6)] okF rfl sc_ups_fit.nd (qi_enum rfl hf.f_enumerate (qa_cons (qe_var (pv 0)) qa_nil)) (blkOk_by (own := [("place", 2), ("kind", 4), ("count", 5), ("_", 6)]) (N := N_ups_fit) (sc := defScope (top 17)) (by decide +kernel)) (fun _ _ _ _ _ => (qg_tupK (K := K) rfl rfl (qgs_cons (qg_name (pg_name (i := 2) sc_ups_fit.nd rfl (Or.inl rfl))) (qgs_cons (qg_tupK (K := K) rfl rfl (qgs_cons (qg_name (pg_name (i := 4) sc_ups_fit.nd rfl (Or.inl rfl))) (qgs_cons (qg_name (pg_name (i := 5) sc_ups_fit.nd rfl (Or.inl rfl))) (qgs_cons (qg_name (pg_name (i := 6) sc_ups_fit.nd rfl (Or.inl rfl))) qgs_nil)))) qgs_nil)))) (tok_seq (tok_cons (tok_name (by decide)) (tok_cons (tok_seq (tok_cons (tok_name (by decide)) (tok_cons (tok_name (by decide)) (tok_cons (tok_name (by decide)) tok_nil)))) tok_nil))) (fun _ _ _ _ _ => (qe_or (qe_cmpK (K := K) rfl (op_neK (K := K) rfl hr.units) simNe (qe_var (pv 4)) (qe_gintE hf.i_PAIR rfl) (nomark _)) (qe_one (qe_cmpK (K := K) rfl (op_eqK (K := K) rfl hr.units) simEq (qe_bmK (K := K) rfl PySem.F.plainAttrs_dict PySem.F.slot_dict_get PySem.F.type_dict_get (mt_getD hu) simGet (qe_var (pv 1)) (qa_cons (qe_var (pv 2)) qa_nil)) (qe_var (pv 5)) (nomark _)))))) qa_nil)))))))⟩

abbrev N_row_right : List Str := ["row", "joint"]
theorem sc_row_right : FnScope N_row_right ["row"] (defScope (top 18)) := ⟨rfl, rfl, rfl, by decide +kernel, rfl, by decide +kernel, by decide +kernel⟩
set_option maxHeartbeats 2000000 in
theorem d_row_right (hf : HF K mg cl) (c_ups_fit : DefOk P w K mg base 1 "ups_fit" ["row"] (P_ups_fit cl)) (c_order_fits : DefOk P w K mg base 1 "order_fits" ["row"] (P_order_fits cl)) (c_leaves_fit : DefOk P w K mg base 1 "leaves_fit" ["row"] (P_leaves_fit cl)) (c_is_joint : DefOk P w K mg base 2 "is_joint" ["thing"] (P_is_joint cl)) (hr : Room 2 (A.deeper (envOfC "row_right" (defScope (top 18)) s.heap.objs.size f cdv))) :
    ∃ ts, QSs (cxOf (L2.CX P w) P w K mg base N_row_right "row_right" (defScope (top 18)) f cdv A outer s H E) (WEx E) (defBody (top 18)) ts (w_row_right cl) := by
  have tk : Takes (cxOf (L2.CX P w) P w K mg base N_row_right "row_right" (defScope (top 18)) f cdv A outer s H E) (WEx E) := takes_of rfl rfl rfl rfl
  have hu := hu_of hr
  exact ⟨_, (qss_cons (qs_if (QW.pt (qw_or (qt_not (qt_truK (K := K) rfl (qe_callBK (K := K) rfl (cb_isiK (K := K) rfl) simIsi rfl hf.f_isinstance bt_isinstance (qa_cons (qe_var (pv 0)) (qa_cons (qe_ty hf.f_tuple rfl bt_tuple) qa_nil))) (fun _ => rfl))) (qw_or (qt_not (qt_chainK (K := K) rfl op_le (simI0 fun _ _ _ => .bl _) op_le (simI0 fun _ _ _ => .bl _) qe_int (qe_callBK (K := K) rfl (cb_lenK (K := K) rfl) simLen rfl hf.f_len bt_len (qa_cons (qe_var (pv 0)) qa_nil)) (qe_gintE hf.i_MOST_JOINTS rfl))) (qw_or1 (qt_cmpK (K := K) rfl (op_eqK (K := K) rfl hr.units) simEq (qe_opK (K := K) rfl op_mod (simI fun _ _ _ => .int _) (qe_callBK (K := K) rfl (cb_lenK (K := K) rfl) simLen rfl hf.f_len bt_len (qa_cons (qe_var (pv 0)) qa_nil)) qe_int) qe_int (nomark _)))))) (qss_one (qs_ret qe_bl)) qss_nil)
    (qss_cons (qs_if (qt_not (qt_truK (K := K) rfl (qe_callBK (K := K) rfl (cb_allK (K := K) rfl rfl) simAll rfl hf.f_all bt_all (qa_cons (qe_lc0 [("joint", 1)] okF rfl sc_row_right.nd (qi_seq (qe_var (pv 0))) (blkOk_by (own := [("joint", 1)]) (N := N_row_right) (sc := defScope (top 18)) (by decide +kernel)) (fun _ _ _ _ _ => (qg_name (pg_name (i := 1) sc_row_right.nd rfl (Or.inl rfl)))) (tok_name (by decide)) (fun _ _ _ _ _ => (qe_callDK (K := K) rfl c_is_joint (hr.mono (by decide)) tk0 rfl (qa_cons (qe_var (pv 1)) qa_nil)))) qa_nil)) (fun _ => rfl))) (qss_one (qs_ret qe_bl)) qss_nil)
    (qss_one (qs_ret (qe_and (qe_callDK (K := K) rfl c_leaves_fit (hr.mono (by decide)) tk rfl (qa_cons (qe_var (pv 0)) qa_nil)) (qe_and (qe_callDK (K := K) rfl c_order_fits (hr.mono (by decide)) tk rfl (qa_cons (qe_var (pv 0)) qa_nil)) (qe_one (qe_callDK (K := K) rfl c_ups_fit (hr.mono (by decide)) tk rfl (qa_cons (qe_var (pv 0)) qa_nil)))))))))⟩

abbrev N_want_row : List Str := ["row"]
theorem sc_want_row : FnScope N_want_row ["row"] (defScope (top 19)) := ⟨rfl, rfl, rfl, by decide +kernel, rfl, by decide +kernel, by decide +kernel⟩
set_option maxHeartbeats 2000000 in
theorem d_want_row (hf : HF K mg cl) (c_row_right : DefOk P w K mg base 3 "row_right" ["row"] (P_row_right cl)) (hr : Room 3 (A.deeper (envOfC "want_row" (defScope (top 19)) s.heap.objs.size f cdv))) :
    ∃ ts, QSs (cxOf (L2.CX P w) P w K mg base N_want_row "want_row" (defScope (top 19)) f cdv A outer s H E) (WEx E) (defBody (top 19)) ts (w_want_row cl) := by
  have tk : Takes (cxOf (L2.CX P w) P w K mg base N_want_row "want_row" (defScope (top 19)) f cdv A outer s H E) (WEx E) := takes_of rfl rfl rfl rfl
  have hu := hu_of hr
  exact ⟨_, (qss_one (qs_if (qt_not (qt_truK (K := K) rfl (qe_callDK (K := K) rfl c_row_right (hr.mono (by decide)) tk rfl (qa_cons (qe_var (pv 0)) qa_nil)) (fun _ => rfl))) (qss_one qs_never) qss_nil))⟩

abbrev N_Making___init__ : List Str := ["self", "leaves"]
theorem sc_Making___init__ : FnScope N_Making___init__ ["self", "leaves"] (defScope (mth 21 0)) := ⟨rfl, rfl, rfl, by decide +kernel, rfl, by decide +kernel, by decide +kernel⟩
set_option maxHeartbeats 2000000 in
theorem d_Making___init__ (hf : HF K mg cl)  (hr : Room 0 (A.deeper (envOfC "Making.__init__" (defScope (mth 21 0)) s.heap.objs.size f cdv))) :
    ∃ ts, QSs (cxOf (L2.CX P w) P w K mg base N_Making___init__ "Making.__init__" (defScope (mth 21 0)) f cdv A outer s H E) (WEx E) (defBody (mth 21 0)) ts (w_Making___init__ cl) := by
  have tk : Takes (cxOf (L2.CX P w) P w K mg base N_Making___init__ "Making.__init__" (defScope (mth 21 0)) f cdv A outer s H E) (WEx E) := takes_of rfl rfl rfl rfl
  have hu := hu_of hr
  exact ⟨_, (qss_cons (qs_setF hf.c_Making hf.n_Making_leaves (qe_var (pv 0)) (qe_var (pv 1)) (by rfl))
    (qss_cons (qs_setF hf.c_Making hf.n_Making_pairs (qe_var (pv 0)) (qe_lst okC qa_nil) (by rfl))
    (qss_one (qs_setF hf.c_Making hf.n_Making_row (qe_var (pv 0)) (qe_lst okC qa_nil) (by rfl)))))⟩

abbrev N_Making_many : List Str := ["self"]
theorem sc_Making_many : FnScope N_Making_many ["self"] (defScope (mth 21 1)) := ⟨rfl, rfl, rfl, by decide +kernel, rfl, by decide +kernel, by decide +kernel⟩
set_option maxHeartbeats 2000000 in
theorem d_Making_many (hf : HF K mg cl)  (hr : Room 0 (A.deeper (envOfC "Making.many" (defScope (mth 21 1)) s.heap.objs.size f cdv))) :
    ∃ ts, QSs (cxOf (L2.CX P w) P w K mg base N_Making_many "Making.many" (defScope (mth 21 1)) f cdv A outer s H E) (WEx E) (defBody (mth 21 1)) ts (w_Making_many cl) := by
  have tk : Takes (cxOf (L2.CX P w) P w K mg base N_Making_many "Making.many" (defScope (mth 21 1)) f cdv A outer s H E) (WEx E) := takes_of rfl rfl rfl rfl
  have hu := hu_of hr
  exact ⟨_, (qss_one (qs_ret (qe_opK (K := K) rfl (op_addK (K := K) rfl) (simAdd okF) (qe_callBK (K := K) rfl (cb_lenK (K := K) rfl) simLen rfl hf.f_len bt_len (qa_cons (qe_fldK (K := K) rfl hf.c_Making hf.n_Making_leaves (qe_var (pv 0))) qa_nil)) (qe_callBK (K := K) rfl (cb_lenK (K := K) rfl) simLen rfl hf.f_len bt_len (qa_cons (qe_fldK (K := K) rfl hf.c_Making hf.n_Making_pairs (qe_var (pv 0))) qa_nil)))))⟩

abbrev N_Making_place_least : List Str := ["self", "count", "kind", "beneath", "place", "low"]
theorem sc_Making_place_least : FnScope N_Making_place_least ["self"] (defScope (mth 21 2)) := ⟨rfl, rfl, rfl, by decide +kernel, rfl, by decide +kernel, by decide +kernel⟩
set_option maxHeartbeats 2000000 in
theorem d_Making_place_least (hf : HF K mg cl)  (hr : Room 0 (A.deeper (envOfC "Making.place_least" (defScope (mth 21 2)) s.heap.objs.size f cdv))) :
    ∃ ts, QSs (cxOf (L2.CX P w) P w K mg base N_Making_place_least "Making.place_least" (defScope (mth 21 2)) f cdv A outer s H E) (WEx E) (defBody (mth 21 2)) ts (w_Making_place_least cl) := by
  have tk : Takes (cxOf (L2.CX P w) P w K mg base N_Making_place_least "Making.place_least" (defScope (mth 21 2)) f cdv A outer s H E) (WEx E) := takes_of rfl rfl rfl rfl
  have hu := hu_of hr
  exact ⟨_, (qss_cons (qs_if (QW.pt (qw_or (qt_not (qt_truK (K := K) rfl (qe_fldK (K := K) rfl hf.c_Making hf.n_Making_pairs (qe_var (pv 0))) (fun _ => rfl))) (qw_or1 (QW.pt (qw_and (qt_truK (K := K) rfl (qe_fldK (K := K) rfl hf.c_Making hf.n_Making_leaves (qe_var (pv 0))) (fun _ => rfl)) (qw_and1 (qt_cmpK (K := K) rfl op_le (simI0 fun _ _ _ => .bl _) (qe_ixK (K := K) rfl hu (qe_ixK (K := K) rfl hu (qe_fldK (K := K) rfl hf.c_Making hf.n_Making_leaves (qe_var (pv 0))) qe_int (fun _ _ => rfl)) qe_int (fun _ _ => rfl)) (qe_ixK (K := K) rfl hu (qe_ixK (K := K) rfl hu (qe_fldK (K := K) rfl hf.c_Making hf.n_Making_pairs (qe_var (pv 0))) qe_int (fun _ _ => rfl)) qe_int (fun _ _ => rfl)) (nomark _)))))))) (qss_cons (qs_asg (qe_bmK (K := K) rfl PySem.F.plainAttrs_list PySem.F.slot_list_pop PySem.F.type_list_pop mt_popAll simPop (qe_fldK (K := K) rfl hf.c_Making hf.n_Making_leaves (qe_var (pv 0))) (qa_cons qe_int qa_nil)) (qg_tupK (K := K) rfl rfl (qgs_cons (qg_name (pg_name (i := 1) sc_Making_place_least.nd rfl (Or.inl rfl))) (qgs_cons (qg_name (pg_name (i := 2) sc_Making_place_least.nd rfl (Or.inl rfl))) qgs_nil))))
    (qss_one (qs_setN (i := 3) sc_Making_place_least.nd rfl (Or.inl rfl) (qe_tup qa_nil)))) (qss_cons (qs_asg (qe_bmK (K := K) rfl PySem.F.plainAttrs_list PySem.F.slot_list_pop PySem.F.type_list_pop mt_popAll simPop (qe_fldK (K := K) rfl hf.c_Making hf.n_Making_pairs (qe_var (pv 0))) (qa_cons qe_int qa_nil)) (qg_tupK (K := K) rfl rfl (qgs_cons (qg_name (pg_name (i := 1) sc_Making_place_least.nd rfl (Or.inl rfl))) (qgs_cons (qg_name (pg_name (i := 3) sc_Making_place_least.nd rfl (Or.inl rfl))) qgs_nil))))
    (qss_one (qs_setN (i := 2) sc_Making_place_least.nd rfl (Or.inl rfl) (qe_gintE hf.i_PAIR rfl)))))
    (qss_cons (qs_setN (i := 4) sc_Making_place_least.nd rfl (Or.inl rfl) (qe_callBK (K := K) rfl (cb_lenK (K := K) rfl) simLen rfl hf.f_len bt_len (qa_cons (qe_fldK (K := K) rfl hf.c_Making hf.n_Making_row (qe_var (pv 0))) qa_nil)))
    (qss_cons (qs_expr (qe_bmK (K := K) rfl PySem.F.plainAttrs_list PySem.F.slot_list_append PySem.F.type_list_append mt_append simAppend (qe_fldK (K := K) rfl hf.c_Making hf.n_Making_row (qe_var (pv 0))) (qa_cons (qe_lst okC (qa_cons (qe_var (pv 2)) (qa_cons (qe_var (pv 1)) (qa_cons (qe_neg qe_int) qa_nil)))) qa_nil)))
    (qss_cons (qs_for (passes_of rfl) rfl (qi_seq (qe_var (pv 3))) (qg_name (pg_name (i := 5) sc_Making_place_least.nd rfl (Or.inl rfl))) (qss_one (qs_asg (qe_var (pv 4)) (qg_sub hu (qe_ixK (K := K) rfl hu (qe_fldK (K := K) rfl hf.c_Making hf.n_Making_row (qe_var (pv 0))) (qe_var (pv 5)) (fun _ _ => rfl)) qe_int))))
    (qss_one (qs_ret (qe_var (pv 4))))))))⟩

abbrev N_Making_join : List Str := ["self", "left", "right"]
theorem sc_Making_join : FnScope N_Making_join ["self"] (defScope (mth 21 3)) := ⟨rfl, rfl, rfl, by decide +kernel, rfl, by decide +kernel, by decide +kernel⟩
set_option maxHeartbeats 2000000 in
theorem d_Making_join (hf : HF K mg cl) (m_Making_place_least : MethOk P w K mg base 1 (cl "Making") "place_least" ["self"] (P_Making_place_least cl)) (hr : Room 1 (A.deeper (envOfC "Making.join" (defScope (mth 21 3)) s.heap.objs.size f cdv))) :
    ∃ ts, QSs (cxOf (L2.CX P w) P w K mg base N_Making_join "Making.join" (defScope (mth 21 3)) f cdv A outer s H E) (WEx E) (defBody (mth 21 3)) ts (w_Making_join cl) := by
  have tk : Takes (cxOf (L2.CX P w) P w K mg base N_Making_join "Making.join" (defScope (mth 21 3)) f cdv A outer s H E) (WEx E) := takes_of rfl rfl rfl rfl
  have hu := hu_of hr
  exact ⟨_, (qss_cons (qs_parN (i := 1) (j := 2) rfl sc_Making_join.nd rfl rfl (by decide) rfl rfl (qa_cons (qe_methD0K (K := K) rfl (qe_var (pv 0)) hf.c_Making m_Making_place_least (hr.mono (by decide)) tk) (qa_cons (qe_methD0K (K := K) rfl (qe_var (pv 0)) hf.c_Making m_Making_place_least (hr.mono (by decide)) tk) qa_nil)) rfl)
    (qss_one (qs_expr (qe_bmK (K := K) rfl PySem.F.plainAttrs_list PySem.F.slot_list_append PySem.F.type_list_append mt_append simAppend (qe_fldK (K := K) rfl hf.c_Making hf.n_Making_pairs (qe_var (pv 0))) (qa_cons (qe_tup (qa_cons (qe_opK (K := K) rfl (op_addK (K := K) rfl) (simAdd okF) (qe_ixK (K := K) rfl hu (qe_ixK (K := K) rfl hu (qe_fldK (K := K) rfl hf.c_Making hf.n_Making_row (qe_var (pv 0))) (qe_var (pv 1)) (fun _ _ => rfl)) qe_int (fun _ _ => rfl)) (qe_ixK (K := K) rfl hu (qe_ixK (K := K) rfl hu (qe_fldK (K := K) rfl hf.c_Making hf.n_Making_row (qe_var (pv 0))) (qe_var (pv 2)) (fun _ _ => rfl)) qe_int (fun _ _ => rfl))) (qa_cons (qe_tup (qa_cons (qe_var (pv 1)) (qa_cons (qe_var (pv 2)) qa_nil))) qa_nil))) qa_nil)))))⟩

abbrev N_made_row : List Str := ["counts", "making", "letter", "count", "kind", "up"]
theorem sc_made_row : FnScope N_made_row ["counts"] (defScope (top 22)) := ⟨rfl, rfl, rfl, by decide +kernel, rfl, by decide +kernel, by decide +kernel⟩
set_option maxHeartbeats 2000000 in
theorem d_made_row (hf : HF K mg cl) (c_want_counts : DefOk P w K mg base 4 "want_counts" ["counts"] (P_want_counts cl)) (m_Making_place_least : MethOk P w K mg base 1 (cl "Making") "place_least" ["self"] (P_Making_place_least cl)) (m_Making_many : MethOk P w K mg base 1 (cl "Making") "many" ["self"] (P_Making_many cl)) (m_Making_join : MethOk P w K mg base 2 (cl "Making") "join" ["self"] (P_Making_join cl)) (n_Making : MakeOk P w K mg base 1 "Making" (cl "Making") ["self", "leaves"] (P_Making___init__ cl)) (hr : Room 4 (A.deeper (envOfC "made_row" (defScope (top 22)) s.heap.objs.size f cdv))) :
    ∃ ts, QSs (cxOf (L2.CX P w) P w K mg base N_made_row "made_row" (defScope (top 22)) f cdv A outer s H E) (WEx E) (defBody (top 22)) ts (w_made_row cl) := by
  have tk : Takes (cxOf (L2.CX P w) P w K mg base N_made_row "made_row" (defScope (top 22)) f cdv A outer s H E) (WEx E) := takes_of rfl rfl rfl rfl
  have hu := hu_of hr
  exact ⟨_, (qss_cons (qs_expr (qe_callDK (K := K) rfl c_want_counts (hr.mono (by decide)) tk rfl (qa_cons (qe_var (pv 0)) qa_nil)))
    (qss_cons (qs_setN (i := 1) sc_made_row.nd rfl (Or.inl rfl) (qe_makeD n_Making (hr.mono (by decide)) tk rfl (qa_cons (qe_callBK (K := K) rfl (cr_sortPU (B := 1048576)) (simSortP okC) rfl hf.f_sorted bt_sorted (qa_cons (qe_opK (K := K) rfl (op_addK (K := K) rfl) (simAdd okF) (qe_lc0 [("letter", 2), ("count", 3)] okF rfl sc_made_row.nd (qi_seq (qe_var (pv 0))) (blkOk_by (own := [("letter", 2), ("count", 3)]) (N := N_made_row) (sc := defScope (top 22)) (by decide +kernel)) (fun _ _ _ _ _ => (qg_tupK (K := K) rfl rfl (qgs_cons (qg_name (pg_name (i := 2) sc_made_row.nd rfl (Or.inl rfl))) (qgs_cons (qg_name (pg_name (i := 3) sc_made_row.nd rfl (Or.inl rfl))) qgs_nil)))) (tok_seq (tok_cons (tok_name (by decide)) (tok_cons (tok_name (by decide)) tok_nil))) (fun _ _ _ _ _ => (qe_tup (qa_cons (qe_var (pv 3)) (qa_cons (qe_var (pv 2)) qa_nil))))) (qe_lst okF (qa_cons (qe_tup (qa_cons qe_int (qa_cons (qe_gintE hf.i_ESCAPE rfl) qa_nil))) qa_nil))) qa_nil)) qa_nil)))
    (qss_cons (qs_while (passes_of rfl) (qt_cmpK (K := K) rfl op_gt (simI0 fun _ _ _ => .bl _) (qe_methD0K (K := K) rfl (qe_var (pv 1)) hf.c_Making m_Making_many (hr.mono (by decide)) tk) qe_int (nomark _)) (qss_one (qs_expr (qe_methD0K (K := K) rfl (qe_var (pv 1)) hf.c_Making m_Making_join (hr.mono (by decide)) tk))))
    (qss_cons (qs_expr (qe_methD0K (K := K) rfl (qe_var (pv 1)) hf.c_Making m_Making_place_least (hr.mono (by decide)) tk))
    (qss_one (qs_ret (qe_callTyK (K := K) rfl (cb_tupleK (K := K) rfl) simTupleOf rfl hf.f_tuple bt_tuple (qa_cons (qe_lc0 [("kind", 4), ("count", 3), ("up", 5)] okF rfl sc_made_row.nd (qi_seq (qe_fldK (K := K) rfl hf.c_Making hf.n_Making_row (qe_var (pv 1)))) (blkOk_by (own := [("kind", 4), ("count", 3), ("up", 5)]) (N := N_made_row) (sc := defScope (top 22)) (by decide +kernel)) (fun _ _ _ _ _ => (qg_tupK (K := K) rfl rfl (qgs_cons (qg_name (pg_name (i := 4) sc_made_row.nd rfl (Or.inl rfl))) (qgs_cons (qg_name (pg_name (i := 3) sc_made_row.nd rfl (Or.inl rfl))) (qgs_cons (qg_name (pg_name (i := 5) sc_made_row.nd rfl (Or.inl rfl))) qgs_nil))))) (tok_seq (tok_cons (tok_name (by decide)) (tok_cons (tok_name (by decide)) (tok_cons (tok_name (by decide)) tok_nil)))) (fun _ _ _ _ _ => (qe_tup (qa_cons (qe_var (pv 4)) (qa_cons (qe_var (pv 3)) (qa_cons (qe_var (pv 5)) qa_nil)))))) qa_nil))))))))⟩

abbrev N_take_least : List Str := ["leaves", "pairs"]
theorem sc_take_least : FnScope N_take_least ["leaves", "pairs"] (defScope (top 24)) := ⟨rfl, rfl, rfl, by decide +kernel, rfl, by decide +kernel, by decide +kernel⟩
set_option maxHeartbeats 2000000 in
theorem d_take_least (hf : HF K mg cl)  (hr : Room 0 (A.deeper (envOfC "take_least" (defScope (top 24)) s.heap.objs.size f cdv))) :
    ∃ ts, QSs (cxOf (L2.CX P w) P w K mg base N_take_least "take_least" (defScope (top 24)) f cdv A outer s H E) (WEx E) (defBody (top 24)) ts (w_take_least cl) := by
  have tk : Takes (cxOf (L2.CX P w) P w K mg base N_take_least "take_least" (defScope (top 24)) f cdv A outer s H E) (WEx E) := takes_of rfl rfl rfl rfl
  have hu := hu_of hr
  exact ⟨_, (qss_cons (qs_if (QW.pt (qw_or (qt_not (qt_truK (K := K) rfl (qe_var (pv 1)) (fun _ => rfl))) (qw_or1 (QW.pt (qw_and (qt_truK (K := K) rfl (qe_var (pv 0)) (fun _ => rfl)) (qw_and1 (qt_cmpK (K := K) rfl op_le (simI0 fun _ _ _ => .bl _) (qe_ixK (K := K) rfl hu (qe_var (pv 0)) (qe_neg qe_int) (fun _ _ => rfl)) (qe_ixK (K := K) rfl hu (qe_var (pv 1)) qe_int (fun _ _ => rfl)) (nomark _)))))))) (qss_one (qs_ret (qe_bm0K (K := K) rfl PySem.F.plainAttrs_list PySem.F.slot_list_pop PySem.F.type_list_pop mt_popAll simPop (qe_var (pv 0))))) qss_nil)
    (qss_one (qs_ret (qe_bmK (K := K) rfl PySem.F.plainAttrs_list PySem.F.slot_list_pop PySem.F.type_list_pop mt_popAll simPop (qe_var (pv 1)) (qa_cons qe_int qa_nil)))))⟩

abbrev N_least_of : List Str := ["numbers", "leaves", "pairs", "told", "joined"]
theorem sc_least_of : FnScope N_least_of ["numbers"] (defScope (top 25)) := ⟨rfl, rfl, rfl, by decide +kernel, rfl, by decide +kernel, by decide +kernel⟩
set_option maxHeartbeats 2000000 in
theorem d_least_of (hf : HF K mg cl) (c_take_least : DefOk P w K mg base 1 "take_least" ["leaves", "pairs"] (P_take_least cl)) (hr : Room 1 (A.deeper (envOfC "least_of" (defScope (top 25)) s.heap.objs.size f cdv))) :
    ∃ ts, QSs (cxOf (L2.CX P w) P w K mg base N_least_of "least_of" (defScope (top 25)) f cdv A outer s H E) (WEx E) (defBody (top 25)) ts (w_least_of cl) := by
  have tk : Takes (cxOf (L2.CX P w) P w K mg base N_least_of "least_of" (defScope (top 25)) f cdv A outer s H E) (WEx E) := takes_of rfl rfl rfl rfl
  have hu := hu_of hr
  exact ⟨_, (qss_cons (qs_setN (i := 1) sc_least_of.nd rfl (Or.inl rfl) (qe_sortRev okC rfl hf.f_sorted (qa_cons (qe_var (pv 0)) qa_nil)))
    (qss_cons (qs_setN (i := 2) sc_least_of.nd rfl (Or.inl rfl) (qe_lst okC qa_nil))
    (qss_cons (qs_setN (i := 3) sc_least_of.nd rfl (Or.inl rfl) qe_int)
    (qss_cons (qs_while (passes_of rfl) (qt_cmpK (K := K) rfl op_gt (simI0 fun _ _ _ => .bl _) (qe_opK (K := K) rfl (op_addK (K := K) rfl) (simAdd okF) (qe_callBK (K := K) rfl (cb_lenK (K := K) rfl) simLen rfl hf.f_len bt_len (qa_cons (qe_var (pv 1)) qa_nil)) (qe_callBK (K := K) rfl (cb_lenK (K := K) rfl) simLen rfl hf.f_len bt_len (qa_cons (qe_var (pv 2)) qa_nil))) qe_int (nomark _)) (qss_cons (qs_setN (i := 4) sc_least_of.nd rfl (Or.inl rfl) (qe_opK (K := K) rfl (op_addK (K := K) rfl) (simAdd okF) (qe_callDK (K := K) rfl c_take_least (hr.mono (by decide)) tk rfl (qa_cons (qe_var (pv 1)) (qa_cons (qe_var (pv 2)) qa_nil))) (qe_callDK (K := K) rfl c_take_least (hr.mono (by decide)) tk rfl (qa_cons (qe_var (pv 1)) (qa_cons (qe_var (pv 2)) qa_nil)))))
    (qss_cons (qs_expr (qe_bmK (K := K) rfl PySem.F.plainAttrs_list PySem.F.slot_list_append PySem.F.type_list_append mt_append simAppend (qe_var (pv 2)) (qa_cons (qe_var (pv 4)) qa_nil)))
    (qss_one (qs_augN (i := 3) sc_least_of.nd rfl (Or.inl rfl) (qe_var (pv 4)))))))
    (qss_one (qs_ret (qe_var (pv 3))))))))⟩

abbrev N_least_sum : List Str := ["counts", "_", "count"]
theorem sc_least_sum : FnScope N_least_sum ["counts"] (defScope (top 26)) := ⟨rfl, rfl, rfl, by decide +kernel, rfl, by decide +kernel, by decide +kernel⟩
set_option maxHeartbeats 2000000 in
theorem d_least_sum (hf : HF K mg cl) (c_least_of : DefOk P w K mg base 2 "least_of" ["numbers"] (P_least_of cl)) (c_want_counts : DefOk P w K mg base 4 "want_counts" ["counts"] (P_want_counts cl)) (hr : Room 4 (A.deeper (envOfC "least_sum" (defScope (top 26)) s.heap.objs.size f cdv))) :
    ∃ ts, QSs (cxOf (L2.CX P w) P w K mg base N_least_sum "least_sum" (defScope (top 26)) f cdv A outer s H E) (WEx E) (defBody (top 26)) ts (w_least_sum cl) := by
  have tk : Takes (cxOf (L2.CX P w) P w K mg base N_least_sum "least_sum" (defScope (top 26)) f cdv A outer s H E) (WEx E) := takes_of rfl rfl rfl rfl
  have hu := hu_of hr
  exact ⟨_, (qss_cons (qs_expr (qe_callDK (K := K) rfl c_want_counts (hr.mono (by decide)) tk rfl (qa_cons (qe_var (pv 0)) qa_nil)))
    (qss_one (qs_ret (qe_callDK (K := K) rfl c_least_of (hr.mono (by decide)) tk rfl (qa_cons (qe_opK (K := K) rfl (op_addK (K := K) rfl) (simAdd okF) (qe_lc0 [("_", 1), ("count", 2)] okF rfl sc_least_sum.nd (qi_seq (qe_var (pv 0))) (blkOk_by (own := [("_", 1), ("count", 2)]) (N := N_least_sum) (sc := defScope (top 26)) (by decide +kernel)) (fun _ _ _ _ _ => (qg_tupK (K := K) rfl rfl (qgs_cons (qg_name (pg_name (i := 1) sc_least_sum.nd rfl (Or.inl rfl))) (qgs_cons (qg_name (pg_name (i := 2) sc_least_sum.nd rfl (Or.inl rfl))) qgs_nil)))) (tok_seq (tok_cons (tok_name (by decide)) (tok_cons (tok_name (by decide)) tok_nil))) (fun _ _ _ _ _ => (qe_var (pv 2)))) (qe_lst okF (qa_cons qe_int qa_nil))) qa_nil)))))⟩

abbrev N_counts_in : List Str := ["row", "kind", "count", "_"]
theorem sc_counts_in : FnScope N_counts_in ["row"] (defScope (top 28)) := ⟨rfl, rfl, rfl, by decide +kernel, rfl, by decide +kernel, by decide +kernel⟩
set_option maxHeartbeats 2000000 in
theorem d_counts_in (hf : HF K mg cl) (c_want_row : DefOk P w K mg base 4 "want_row" ["row"] (P_want_row cl)) (hr : Room 4 (A.deeper (envOfC "counts_in" (defScope (top 28)) s.heap.objs.size f cdv))) :
    ∃ ts, QSs (cxOf (L2.CX P w) P w K mg base N_counts_in "counts_in" (defScope (top 28)) f cdv A outer s H E) (WEx E) (defBody (top 28)) ts (w_counts_in cl) := by
  have tk : Takes (cxOf (L2.CX P w) P w K mg base N_counts_in "counts_in" (defScope (top 28)) f cdv A outer s H E) (WEx E) := takes_of rfl rfl rfl rfl
  have hu := hu_of hr
  exact ⟨_, (qss_cons (qs_expr (qe_callDK (K := K) rfl c_want_row (hr.mono (by decide)) tk rfl (qa_cons (qe_var (pv 0)) qa_nil)))
    (qss_one (qs_ret (qe_callTyK (K := K) rfl (cb_tupleK (K := K) rfl) simTupleOf rfl hf.f_tuple bt_tuple (qa_cons (qe_callBK (K := K) rfl (cr_sortPU (B := 1048576)) (simSortP okF) rfl hf.f_sorted bt_sorted (qa_cons (qe_lc1 [("kind", 1), ("count", 2), ("_", 3)] okF rfl sc_counts_in.nd (qi_seq (qe_var (pv 0))) (blkOk_by (own := [("kind", 1), ("count", 2), ("_", 3)]) (N := N_counts_in) (sc := defScope (top 28)) (by decide +kernel)) (fun _ _ _ _ _ => (qg_tupK (K := K) rfl rfl (qgs_cons (qg_name (pg_name (i := 1) sc_counts_in.nd rfl (Or.inl rfl))) (qgs_cons (qg_name (pg_name (i := 2) sc_counts_in.nd rfl (Or.inl rfl))) (qgs_cons (qg_name (pg_name (i := 3) sc_counts_in.nd rfl (Or.inl rfl))) qgs_nil))))) (tok_seq (tok_cons (tok_name (by decide)) (tok_cons (tok_name (by decide)) (tok_cons (tok_name (by decide)) tok_nil)))) (fun _ _ _ _ _ => (qt_cmpK (K := K) rfl (op_notInK (K := K) rfl hu) (simIn (neg := true)) (qe_var (pv 1)) (qe_tup (qa_cons (qe_gintE hf.i_PAIR rfl) (qa_cons (qe_gintE hf.i_ESCAPE rfl) qa_nil))) (by with_unfolding_all rfl))) (fun _ _ _ _ _ => (qe_tup (qa_cons (qe_var (pv 1)) (qa_cons (qe_var (pv 2)) qa_nil))))) qa_nil)) qa_nil)))))⟩

abbrev N_sum_of : List Str := ["row", "kind", "count", "_"]
theorem sc_sum_of : FnScope N_sum_of ["row"] (defScope (top 29)) := ⟨rfl, rfl, rfl, by decide +kernel, rfl, by decide +kernel, by decide +kernel⟩
set_option maxHeartbeats 2000000 in
theorem d_sum_of (hf : HF K mg cl) (c_want_row : DefOk P w K mg base 4 "want_row" ["row"] (P_want_row cl)) (hr : Room 4 (A.deeper (envOfC "sum_of" (defScope (top 29)) s.heap.objs.size f cdv))) :
    ∃ ts, QSs (cxOf (L2.CX P w) P w K mg base N_sum_of "sum_of" (defScope (top 29)) f cdv A outer s H E) (WEx E) (defBody (top 29)) ts (w_sum_of cl) := by
  have tk : Takes (cxOf (L2.CX P w) P w K mg base N_sum_of "sum_of" (defScope (top 29)) f cdv A outer s H E) (WEx E) := takes_of rfl rfl rfl rfl
  have hu := hu_of hr
  exact ⟨_, (qss_cons (qs_expr (qe_callDK (K := K) rfl c_want_row (hr.mono (by decide)) tk rfl (qa_cons (qe_var (pv 0)) qa_nil)))
    (qss_one (qs_ret (qe_callBK (K := K) rfl (cb_sumK (K := K) rfl rfl) simSum rfl hf.f_sum bt_sum (qa_cons (qe_lc1 [("kind", 1), ("count", 2), ("_", 3)] okF rfl sc_sum_of.nd (qi_seq (qe_var (pv 0))) (blkOk_by (own := [("kind", 1), ("count", 2), ("_", 3)]) (N := N_sum_of) (sc := defScope (top 29)) (by decide +kernel)) (fun _ _ _ _ _ => (qg_tupK (K := K) rfl rfl (qgs_cons (qg_name (pg_name (i := 1) sc_sum_of.nd rfl (Or.inl rfl))) (qgs_cons (qg_name (pg_name (i := 2) sc_sum_of.nd rfl (Or.inl rfl))) (qgs_cons (qg_name (pg_name (i := 3) sc_sum_of.nd rfl (Or.inl rfl))) qgs_nil))))) (tok_seq (tok_cons (tok_name (by decide)) (tok_cons (tok_name (by decide)) (tok_cons (tok_name (by decide)) tok_nil)))) (fun _ _ _ _ _ => (qt_cmpK (K := K) rfl (op_eqK (K := K) rfl hr.units) simEq (qe_var (pv 1)) (qe_gintE hf.i_PAIR rfl) (nomark _))) (fun _ _ _ _ _ => (qe_var (pv 2)))) qa_nil)))))⟩

abbrev N__law_pool : List Str := ["script", "k", "cell", "big", "stirred"]
theorem sc__law_pool : FnScope N__law_pool ["script", "k"] (defScope (top 31)) := ⟨rfl, rfl, rfl, by decide +kernel, rfl, by decide +kernel, by decide +kernel⟩
set_option maxHeartbeats 2000000 in
theorem d__law_pool (hf : HF K mg cl)  (hr : Room 0 (A.deeper (envOfC "_law_pool" (defScope (top 31)) s.heap.objs.size f cdv))) :
    ∃ ts, QSs (cxOf (L2.CX P w) P w K mg base N__law_pool "_law_pool" (defScope (top 31)) f cdv A outer s H E) (WEx E) (defBody (top 31)) ts (w__law_pool cl) := by
  have tk : Takes (cxOf (L2.CX P w) P w K mg base N__law_pool "_law_pool" (defScope (top 31)) f cdv A outer s H E) (WEx E) := takes_of rfl rfl rfl rfl
  have hu := hu_of hr
  exact ⟨_, (qss_cons (qs_setN (i := 2) sc__law_pool.nd rfl (Or.inl rfl) qe_int)
    (qss_cons (qs_if (qt_cmpK (K := K) rfl op_lt (simI0 fun _ _ _ => .bl _) (qe_var (pv 1)) (qe_callBK (K := K) rfl (cb_lenK (K := K) rfl) simLen rfl hf.f_len bt_len (qa_cons (qe_var (pv 0)) qa_nil)) (nomark _)) (qss_one (qs_setN (i := 2) sc__law_pool.nd rfl (Or.inl rfl) (qe_ixK (K := K) rfl hu (qe_var (pv 0)) (qe_var (pv 1)) (fun _ _ => rfl)))) (qss_one (qs_if (qt_truK (K := K) rfl (qe_var (pv 0)) (fun _ => rfl)) (qss_one (qs_setN (i := 2) sc__law_pool.nd rfl (Or.inl rfl) (qe_ixK (K := K) rfl hu (qe_var (pv 0)) qe_int (fun _ _ => rfl)))) qss_nil)))
    (qss_cons (qs_setN (i := 3) sc__law_pool.nd rfl (Or.inl rfl) (qe_callBK (K := K) rfl (call_max2 rfl) simI2 rfl hf.f_max bt_max (qa_cons (qe_callTyK (K := K) rfl call_int1 simInt rfl hf.f_int bt_int (qa_cons (qe_var (pv 2)) qa_nil)) (qa_cons (qe_callTyK (K := K) rfl call_int1 simInt rfl hf.f_int bt_int (qa_cons (qe_opK (K := K) rfl op_sub (simI0 fun _ _ _ => .int _) (qe_neg qe_int) (qe_var (pv 2))) qa_nil)) qa_nil))))
    (qss_cons (qs_setN (i := 4) sc__law_pool.nd rfl (Or.inl rfl) (qe_opK (K := K) rfl op_mod (simI fun _ _ _ => .int _) (qe_callTyK (K := K) rfl call_int1 simInt rfl hf.f_int bt_int (qa_cons (qe_opK (K := K) rfl op_mulAll (simMul okF) (qe_opK (K := K) rfl (op_addK (K := K) rfl) (simAdd okF) (qe_opK (K := K) rfl (op_addK (K := K) rfl) (simAdd okF) (qe_opK (K := K) rfl (op_addK (K := K) rfl) (simAdd okF) (qe_opK (K := K) rfl op_mod (simI fun _ _ _ => .int _) (qe_callTyK (K := K) rfl call_int1 simInt rfl hf.f_int bt_int (qa_cons (qe_var (pv 3)) qa_nil)) qe_int) (qe_opK (K := K) rfl op_mulAll (simMul okF) (qe_opK (K := K) rfl op_mulAll (simMul okF) qe_int (qe_var (pv 1))) (qe_var (pv 1)))) (qe_opK (K := K) rfl op_mulAll (simMul okF) qe_int (qe_var (pv 1)))) qe_int) qe_int) qa_nil)) qe_int))
    (qss_one (qs_ret (qe_lst okC (qa_cons (qe_opK (K := K) rfl op_mulAll (simMul okF) (qe_var (pv 3)) (qe_callTyK (K := K) rfl call_int1 simInt rfl hf.f_int bt_int (qa_cons (qe_cmpK (K := K) rfl op_ge (simI0 fun _ _ _ => .bl _) (qe_var (pv 3)) (qe_opK (K := K) rfl op_pow (simI fun _ _ _ => .int _) qe_int qe_int) (nomark _)) qa_nil))) (qa_cons (qe_var (pv 4)) qa_nil)))))))))⟩

abbrev N__law_take : List Str := ["source", "top", "digit"]
theorem sc__law_take : FnScope N__law_take ["source", "top"] (defScope (top 32)) := ⟨rfl, rfl, rfl, by decide +kernel, rfl, by decide +kernel, by decide +kernel⟩
set_option maxHeartbeats 2000000 in
theorem d__law_take (hf : HF K mg cl)  (hr : Room 0 (A.deeper (envOfC "_law_take" (defScope (top 32)) s.heap.objs.size f cdv))) :
    ∃ ts, QSs (cxOf (L2.CX P w) P w K mg base N__law_take "_law_take" (defScope (top 32)) f cdv A outer s H E) (WEx E) (defBody (top 32)) ts (w__law_take cl) := by
  have tk : Takes (cxOf (L2.CX P w) P w K mg base N__law_take "_law_take" (defScope (top 32)) f cdv A outer s H E) (WEx E) := takes_of rfl rfl rfl rfl
  have hu := hu_of hr
  exact ⟨_, (qss_cons (qs_if (qt_cmpK (K := K) rfl op_gt (simI0 fun _ _ _ => .bl _) (qe_ixK (K := K) rfl hu (qe_var (pv 0)) qe_int (fun _ _ => rfl)) qe_int (nomark _)) (qss_cons (qs_setN (i := 2) sc__law_take.nd rfl (Or.inl rfl) (qe_opK (K := K) rfl op_mod (simI fun _ _ _ => .int _) (qe_callTyK (K := K) rfl call_int1 simInt rfl hf.f_int bt_int (qa_cons (qe_ixK (K := K) rfl hu (qe_var (pv 0)) qe_int (fun _ _ => rfl)) qa_nil)) (qe_var (pv 1))))
    (qss_cons (qs_asg (qe_opK (K := K) rfl op_fdiv (simI fun _ _ _ => .int _) (qe_ixK (K := K) rfl hu (qe_var (pv 0)) qe_int (fun _ _ => rfl)) (qe_var (pv 1))) (qg_sub hu (qe_var (pv 0)) qe_int))
    (qss_one (qs_ret (qe_var (pv 2)))))) qss_nil)
    (qss_cons (qs_asg (qe_opK (K := K) rfl op_mod (simI fun _ _ _ => .int _) (qe_callTyK (K := K) rfl call_int1 simInt rfl hf.f_int bt_int (qa_cons (qe_opK (K := K) rfl (op_addK (K := K) rfl) (simAdd okF) (qe_opK (K := K) rfl op_mulAll (simMul okF) (qe_ixK (K := K) rfl hu (qe_var (pv 0)) qe_int (fun _ _ => rfl)) qe_int) qe_int) qa_nil)) qe_int) (qg_sub hu (qe_var (pv 0)) qe_int))
    (qss_one (qs_ret (qe_opK (K := K) rfl op_mod (simI fun _ _ _ => .int _) (qe_callTyK (K := K) rfl call_int1 simInt rfl hf.f_int bt_int (qa_cons (qe_opK (K := K) rfl op_fdiv (simI fun _ _ _ => .int _) (qe_opK (K := K) rfl op_mod (simI fun _ _ _ => .int _) (qe_callTyK (K := K) rfl call_int1 simInt rfl hf.f_int bt_int (qa_cons (qe_opK (K := K) rfl op_mulAll (simMul okF) (qe_ixK (K := K) rfl hu (qe_var (pv 0)) qe_int (fun _ _ => rfl)) (qe_ixK (K := K) rfl hu (qe_var (pv 0)) qe_int (fun _ _ => rfl))) qa_nil)) qe_int) qe_int) qa_nil)) (qe_var (pv 1)))))))⟩

abbrev N__law_one : List Str := ["source", "things"]
theorem sc__law_one : FnScope N__law_one ["source", "things"] (defScope (top 33)) := ⟨rfl, rfl, rfl, by decide +kernel, rfl, by decide +kernel, by decide +kernel⟩
set_option maxHeartbeats 2000000 in
theorem d__law_one (hf : HF K mg cl) (c__law_take : DefOk P w K mg base 1 "_law_take" ["source", "top"] (P__law_take cl)) (hr : Room 1 (A.deeper (envOfC "_law_one" (defScope (top 33)) s.heap.objs.size f cdv))) :
    ∃ ts, QSs (cxOf (L2.CX P w) P w K mg base N__law_one "_law_one" (defScope (top 33)) f cdv A outer s H E) (WEx E) (defBody (top 33)) ts (w__law_one cl) := by
  have tk : Takes (cxOf (L2.CX P w) P w K mg base N__law_one "_law_one" (defScope (top 33)) f cdv A outer s H E) (WEx E) := takes_of rfl rfl rfl rfl
  have hu := hu_of hr
  exact ⟨_, (qss_one (qs_ret (qe_ixK (K := K) rfl hu (qe_var (pv 1)) (qe_callDK (K := K) rfl c__law_take (hr.mono (by decide)) tk rfl (qa_cons (qe_var (pv 0)) (qa_cons (qe_callBK (K := K) rfl (cb_lenK (K := K) rfl) simLen rfl hf.f_len bt_len (qa_cons (qe_var (pv 1)) qa_nil)) qa_nil))) (fun _ _ => rfl))))⟩

abbrev N__law_alphabet : List Str := ["source", "most", "found", "turn", "letter"]
theorem sc__law_alphabet : FnScope N__law_alphabet ["source", "most"] (defScope (top 34)) := ⟨rfl, rfl, rfl, by decide +kernel, rfl, by decide +kernel, by decide +kernel⟩
set_option maxHeartbeats 2000000 in
theorem d__law_alphabet (hf : HF K mg cl) (c__law_take : DefOk P w K mg base 1 "_law_take" ["source", "top"] (P__law_take cl)) (c__law_one : DefOk P w K mg base 2 "_law_one" ["source", "things"] (P__law_one cl)) (hr : Room 2 (A.deeper (envOfC "_law_alphabet" (defScope (top 34)) s.heap.objs.size f cdv))) :
    ∃ ts, QSs (cxOf (L2.CX P w) P w K mg base N__law_alphabet "_law_alphabet" (defScope (top 34)) f cdv A outer s H E) (WEx E) (defBody (top 34)) ts (w__law_alphabet cl) := by
  have tk : Takes (cxOf (L2.CX P w) P w K mg base N__law_alphabet "_law_alphabet" (defScope (top 34)) f cdv A outer s H E) (WEx E) := takes_of rfl rfl rfl rfl
  have hu := hu_of hr
  exact ⟨_, (qss_cons (qs_setN (i := 2) sc__law_alphabet.nd rfl (Or.inl rfl) (qe_lst okC qa_nil))
    (qss_cons (qs_for (passes_of rfl) rfl (qi_rng1 rfl hf.f_range (qa_cons (qe_opK (K := K) rfl (op_addK (K := K) rfl) (simAdd okF) qe_int (qe_callDK (K := K) rfl c__law_take (hr.mono (by decide)) tk rfl (qa_cons (qe_var (pv 0)) (qa_cons (qe_var (pv 1)) qa_nil)))) qa_nil)) (qg_name (pg_name (i := 3) sc__law_alphabet.nd rfl (Or.inl rfl))) (qss_cons (qs_setN (i := 4) sc__law_alphabet.nd rfl (Or.inl rfl) (qe_callDK (K := K) rfl c__law_one (hr.mono (by decide)) tk rfl (qa_cons (qe_var (pv 0)) (qa_cons (qe_lst okF (qa_cons qe_int (qa_cons qe_int (qa_cons (qe_callDK (K := K) rfl c__law_take (hr.mono (by decide)) tk rfl (qa_cons (qe_var (pv 0)) (qa_cons qe_int qa_nil))) (qa_cons (qe_callDK (K := K) rfl c__law_take (hr.mono (by decide)) tk rfl (qa_cons (qe_var (pv 0)) (qa_cons qe_int qa_nil))) qa_nil))))) qa_nil))))
    (qss_one (qs_if (qt_cmpK (K := K) rfl (op_notInK (K := K) rfl hu) (simIn (neg := true)) (qe_var (pv 4)) (qe_var (pv 2)) (by with_unfolding_all rfl)) (qss_one (qs_expr (qe_bmK (K := K) rfl PySem.F.plainAttrs_list PySem.F.slot_list_append PySem.F.type_list_append mt_append simAppend (qe_var (pv 2)) (qa_cons (qe_var (pv 4)) qa_nil)))) qss_nil))))
    (qss_one (qs_ret (qe_gv (qe_var (pv 2)))))))⟩

abbrev N__law_letters : List Str := ["source", "most", "few", "row", "way", "many", "turn"]
theorem sc__law_letters : FnScope N__law_letters ["source", "most"] (defScope (top 35)) := ⟨rfl, rfl, rfl, by decide +kernel, rfl, by decide +kernel, by decide +kernel⟩
set_option maxHeartbeats 2000000 in
theorem d__law_letters (hf : HF K mg cl) (c__law_one : DefOk P w K mg base 2 "_law_one" ["source", "things"] (P__law_one cl)) (c__law_take : DefOk P w K mg base 1 "_law_take" ["source", "top"] (P__law_take cl)) (c__law_alphabet : DefOk P w K mg base 3 "_law_alphabet" ["source", "most"] (P__law_alphabet cl)) (hr : Room 3 (A.deeper (envOfC "_law_letters" (defScope (top 35)) s.heap.objs.size f cdv))) :
    ∃ ts, QSs (cxOf (L2.CX P w) P w K mg base N__law_letters "_law_letters" (defScope (top 35)) f cdv A outer s H E) (WEx E) (defBody (top 35)) ts (w__law_letters cl) := by
  have tk : Takes (cxOf (L2.CX P w) P w K mg base N__law_letters "_law_letters" (defScope (top 35)) f cdv A outer s H E) (WEx E) := takes_of rfl rfl rfl rfl
  have hu := hu_of hr
  exact ⟨_, (qss_cons (qs_parN (i := 2) (j := 3) rfl sc__law_letters.nd rfl rfl (by decide) rfl rfl (qa_cons (qe_callDK (K := K) rfl c__law_alphabet (hr.mono (by decide)) tk rfl (qa_cons (qe_var (pv 0)) (qa_cons (qe_callDK (K := K) rfl c__law_one (hr.mono (by decide)) tk rfl (qa_cons (qe_var (pv 0)) (qa_cons (qe_lst okF (qa_cons qe_int (qa_cons qe_int (qa_cons qe_int (qa_cons qe_int (qa_cons qe_int qa_nil)))))) qa_nil))) qa_nil))) (qa_cons (qe_lst okC qa_nil) qa_nil)) rfl)
    (qss_cons (qs_parN (i := 4) (j := 5) rfl sc__law_letters.nd rfl rfl (by decide) rfl rfl (qa_cons (qe_callDK (K := K) rfl c__law_take (hr.mono (by decide)) tk rfl (qa_cons (qe_var (pv 0)) (qa_cons qe_int qa_nil))) (qa_cons (qe_callDK (K := K) rfl c__law_take (hr.mono (by decide)) tk rfl (qa_cons (qe_var (pv 0)) (qa_cons (qe_opK (K := K) rfl (op_addK (K := K) rfl) (simAdd okF) (qe_var (pv 1)) qe_int) qa_nil))) qa_nil)) rfl)
    (qss_cons (qs_for (passes_of rfl) rfl (qi_rng1 rfl hf.f_range (qa_cons (qe_var (pv 5)) qa_nil)) (qg_name (pg_name (i := 6) sc__law_letters.nd rfl (Or.inl rfl))) (qss_one (qs_if (qt_cmpK (K := K) rfl (op_eqK (K := K) rfl hr.units) simEq (qe_var (pv 4)) qe_int (nomark _)) (qss_one (qs_expr (qe_bmK (K := K) rfl PySem.F.plainAttrs_list PySem.F.slot_list_append PySem.F.type_list_append mt_append simAppend (qe_var (pv 3)) (qa_cons (qe_callDK (K := K) rfl c__law_one (hr.mono (by decide)) tk rfl (qa_cons (qe_var (pv 0)) (qa_cons (qe_var (pv 2)) qa_nil))) qa_nil)))) (qss_one (qs_if (qt_cmpK (K := K) rfl (op_eqK (K := K) rfl hr.units) simEq (qe_var (pv 4)) qe_int (nomark _)) (qss_one (qs_expr (qe_bmK (K := K) rfl PySem.F.plainAttrs_list PySem.F.slot_list_append PySem.F.type_list_append mt_append simAppend (qe_var (pv 3)) (qa_cons (qe_ixK (K := K) rfl hu (qe_var (pv 2)) (qe_callBK (K := K) rfl (call_min2 rfl) simI2 rfl hf.f_min bt_min (qa_cons (qe_callDK (K := K) rfl c__law_take (hr.mono (by decide)) tk rfl (qa_cons (qe_var (pv 0)) (qa_cons (qe_callBK (K := K) rfl (cb_lenK (K := K) rfl) simLen rfl hf.f_len bt_len (qa_cons (qe_var (pv 2)) qa_nil)) qa_nil))) (qa_cons (qe_callDK (K := K) rfl c__law_take (hr.mono (by decide)) tk rfl (qa_cons (qe_var (pv 0)) (qa_cons (qe_callBK (K := K) rfl (cb_lenK (K := K) rfl) simLen rfl hf.f_len bt_len (qa_cons (qe_var (pv 2)) qa_nil)) qa_nil))) qa_nil))) (fun _ _ => rfl)) qa_nil)))) (qss_one (qs_if (qt_cmpK (K := K) rfl (op_eqK (K := K) rfl hr.units) simEq (qe_var (pv 4)) qe_int (nomark _)) (qss_one (qs_expr (qe_bmK (K := K) rfl PySem.F.plainAttrs_list PySem.F.slot_list_append PySem.F.type_list_append mt_append simAppend (qe_var (pv 3)) (qa_cons (qe_ixK (K := K) rfl hu (qe_var (pv 2)) (qe_opK (K := K) rfl op_fdiv (simI fun _ _ _ => .int _) (qe_opK (K := K) rfl op_mulAll (simMul okF) (qe_var (pv 6)) (qe_callBK (K := K) rfl (cb_lenK (K := K) rfl) simLen rfl hf.f_len bt_len (qa_cons (qe_var (pv 2)) qa_nil))) (qe_callBK (K := K) rfl (call_max2 rfl) simI2 rfl hf.f_max bt_max (qa_cons qe_int (qa_cons (qe_var (pv 5)) qa_nil)))) (fun _ _ => rfl)) qa_nil)))) (qss_one (qs_expr (qe_bmK (K := K) rfl PySem.F.plainAttrs_list PySem.F.slot_list_append PySem.F.type_list_append mt_append simAppend (qe_var (pv 3)) (qa_cons (qe_ixK (K := K) rfl hu (qe_var (pv 2)) (qe_opK (K := K) rfl op_mod (simI fun _ _ _ => .int _) (qe_callTyK (K := K) rfl call_int1 simInt rfl hf.f_int bt_int (qa_cons (qe_var (pv 6)) qa_nil)) (qe_callBK (K := K) rfl (cb_lenK (K := K) rfl) simLen rfl hf.f_len bt_len (qa_cons (qe_var (pv 2)) qa_nil))) (fun _ _ => rfl)) qa_nil)))))))))))
    (qss_one (qs_ret (qe_callTyK (K := K) rfl (cb_tupleK (K := K) rfl) simTupleOf rfl hf.f_tuple bt_tuple (qa_cons (qe_var (pv 3)) qa_nil)))))))⟩

abbrev N__law_counts : List Str := ["source", "most", "found", "way", "twice", "letter", "far"]
theorem sc__law_counts : FnScope N__law_counts ["source", "most"] (defScope (top 36)) := ⟨rfl, rfl, rfl, by decide +kernel, rfl, by decide +kernel, by decide +kernel⟩
set_option maxHeartbeats 2000000 in
theorem d__law_counts (hf : HF K mg cl) (c__law_alphabet : DefOk P w K mg base 3 "_law_alphabet" ["source", "most"] (P__law_alphabet cl)) (c__law_take : DefOk P w K mg base 1 "_law_take" ["source", "top"] (P__law_take cl)) (c__law_one : DefOk P w K mg base 2 "_law_one" ["source", "things"] (P__law_one cl)) (hr : Room 3 (A.deeper (envOfC "_law_counts" (defScope (top 36)) s.heap.objs.size f cdv))) :
    ∃ ts, QSs (cxOf (L2.CX P w) P w K mg base N__law_counts "_law_counts" (defScope (top 36)) f cdv A outer s H E) (WEx E) (defBody (top 36)) ts (w__law_counts cl) := by
  have tk : Takes (cxOf (L2.CX P w) P w K mg base N__law_counts "_law_counts" (defScope (top 36)) f cdv A outer s H E) (WEx E) := takes_of rfl rfl rfl rfl
  have hu := hu_of hr
  exact ⟨_, (qss_cons (qs_par3N (i := 2) (j := 3) (l := 4) rfl sc__law_counts.nd rfl rfl rfl (by decide) (by decide) (by decide) rfl rfl rfl (qa_cons (qe_lst okC qa_nil) (qa_cons (qe_callDK (K := K) rfl c__law_take (hr.mono (by decide)) tk rfl (qa_cons (qe_var (pv 0)) (qa_cons qe_int qa_nil))) (qa_cons qe_int qa_nil))) rfl)
    (qss_cons (qs_for (passes_of rfl) rfl (qi_seq (qe_sortSet okF rfl rfl hf.f_sorted rfl hf.f_set (qe_callDK (K := K) rfl c__law_alphabet (hr.mono (by decide)) tk rfl (qa_cons (qe_var (pv 0)) (qa_cons (qe_var (pv 1)) qa_nil))))) (qg_name (pg_name (i := 5) sc__law_counts.nd rfl (Or.inl rfl))) (qss_cons (qs_setN (i := 6) sc__law_counts.nd rfl (Or.inl rfl) (qe_callDK (K := K) rfl c__law_one (hr.mono (by decide)) tk rfl (qa_cons (qe_var (pv 0)) (qa_cons (qe_lst okF (qa_cons qe_int (qa_cons qe_int (qa_cons qe_int (qa_cons qe_int (qa_cons (qe_opK (K := K) rfl (op_addK (K := K) rfl) (simAdd okF) qe_int (qe_callDK (K := K) rfl c__law_take (hr.mono (by decide)) tk rfl (qa_cons (qe_var (pv 0)) (qa_cons qe_int qa_nil)))) qa_nil)))))) qa_nil))))
    (qss_cons (qs_expr (qe_bmK (K := K) rfl PySem.F.plainAttrs_list PySem.F.slot_list_append PySem.F.type_list_append mt_append simAppend (qe_var (pv 2)) (qa_cons (qe_tup (qa_cons (qe_var (pv 5)) (qa_cons (qe_ixK (K := K) rfl hu (qe_lst okF (qa_cons (qe_opK (K := K) rfl (op_addK (K := K) rfl) (simAdd okF) qe_int (qe_callDK (K := K) rfl c__law_take (hr.mono (by decide)) tk rfl (qa_cons (qe_var (pv 0)) (qa_cons qe_int qa_nil)))) (qa_cons (qe_opK (K := K) rfl (op_addK (K := K) rfl) (simAdd okF) qe_int (qe_callDK (K := K) rfl c__law_take (hr.mono (by decide)) tk rfl (qa_cons (qe_var (pv 0)) (qa_cons qe_int qa_nil)))) (qa_cons (qe_var (pv 4)) (qa_cons (qe_var (pv 6)) qa_nil))))) (qe_var (pv 3)) (fun _ _ => rfl)) qa_nil))) qa_nil)))
    (qss_one (qs_setN (i := 4) sc__law_counts.nd rfl (Or.inl rfl) (qe_callBK (K := K) rfl (call_min2 rfl) simI2 rfl hf.f_min bt_min (qa_cons qe_int (qa_cons (qe_opK (K := K) rfl op_mulAll (simMul okF) qe_int (qe_var (pv 4))) qa_nil))))))))
    (qss_one (qs_ret (qe_callTyK (K := K) rfl (cb_tupleK (K := K) rfl) simTupleOf rfl hf.f_tuple bt_tuple (qa_cons (qe_var (pv 2)) qa_nil))))))⟩

abbrev N__law_counted : List Str := ["letters", "letter", "x"]
theorem sc__law_counted : FnScope N__law_counted ["letters"] (defScope (top 37)) := ⟨rfl, rfl, rfl, by decide +kernel, rfl, by decide +kernel, by decide +kernel⟩
set_option maxHeartbeats 2000000 in
theorem d__law_counted (hf : HF K mg cl)  (hr : Room 0 (A.deeper (envOfC "_law_counted" (defScope (top 37)) s.heap.objs.size f cdv))) :
    ∃ ts, QSs (cxOf (L2.CX P w) P w K mg base N__law_counted "_law_counted" (defScope (top 37)) f cdv A outer s H E) (WEx E) (defBody (top 37)) ts (w__law_counted cl) := by
  have tk : Takes (cxOf (L2.CX P w) P w K mg base N__law_counted "_law_counted" (defScope (top 37)) f cdv A outer s H E) (WEx E) := takes_of rfl rfl rfl rfl
  have hu := hu_of hr
  exact ⟨_, (qss_one (qs_ret (qe_callTyK (K := K) rfl (cb_tupleK (K := K) rfl) simTupleOf rfl hf.f_tuple bt_tuple (qa_cons (qe_lc0 [("letter", 1)] okF rfl sc__law_counted.nd (qi_seq (qe_sortSetT okF rfl rfl hf.f_sorted rfl hf.f_set (qe_var (pv 0)))) (blkOk_by (own := [("letter", 1)]) (N := N__law_counted) (sc := defScope (top 37)) (by decide +kernel)) (fun _ _ _ _ _ => (qg_name (pg_name (i := 1) sc__law_counted.nd rfl (Or.inr rfl)))) (tok_name (by decide)) (fun _ _ _ _ _ => (qe_tup (qa_cons (qe_var (pv 1)) (qa_cons (qe_callBK (K := K) rfl (cb_lenK (K := K) rfl) simLen rfl hf.f_len bt_len (qa_cons (qe_lc1 [("x", 2)] okF rfl sc__law_counted.nd (qi_seqK (K := K) rfl (qe_var (pv 0))) (blkOk_by (own := [("x", 2)]) (N := N__law_counted) (by with_unfolding_all rfl)) (fun _ _ _ _ _ => (qg_name (pg_name (i := 2) sc__law_counted.nd rfl (Or.inl rfl)))) (tok_name (by decide)) (fun _ _ _ _ _ => (qt_cmpK (K := K) rfl (op_eqK (K := K) rfl hr.units) simEq (qe_var (pv 2)) (qe_var (pv 1)) (nomark _))) (fun _ _ _ _ _ => (qe_var (pv 2)))) qa_nil)) qa_nil))))) qa_nil))))⟩

abbrev N__law_least : List Str := ["counts", "heap", "told", "turn", "both", "letter", "count"]
theorem sc__law_least : FnScope N__law_least ["counts"] (defScope (top 38)) := ⟨rfl, rfl, rfl, by decide +kernel, rfl, by decide +kernel, by decide +kernel⟩
set_option maxHeartbeats 2000000 in
theorem d__law_least (hf : HF K mg cl)  (hr : Room 0 (A.deeper (envOfC "_law_least" (defScope (top 38)) s.heap.objs.size f cdv))) :
    ∃ ts, QSs (cxOf (L2.CX P w) P w K mg base N__law_least "_law_least" (defScope (top 38)) f cdv A outer s H E) (WEx E) (defBody (top 38)) ts (w__law_least cl) := by
  have tk : Takes (cxOf (L2.CX P w) P w K mg base N__law_least "_law_least" (defScope (top 38)) f cdv A outer s H E) (WEx E) := takes_of rfl rfl rfl rfl
  have hu := hu_of hr
  exact ⟨_, (qss_cons (qs_parN (i := 1) (j := 2) rfl sc__law_least.nd rfl rfl (by decide) rfl rfl (qa_cons (qe_opK (K := K) rfl (op_addK (K := K) rfl) (simAdd okF) (qe_lst okF (qa_cons qe_int qa_nil)) (qe_lc0 [("letter", 5), ("count", 6)] okF rfl sc__law_least.nd (qi_seq (qe_var (pv 0))) (blkOk_by (own := [("letter", 5), ("count", 6)]) (N := N__law_least) (sc := defScope (top 38)) (by decide +kernel)) (fun _ _ _ _ _ => (qg_tupK (K := K) rfl rfl (qgs_cons (qg_name (pg_name (i := 5) sc__law_least.nd rfl (Or.inl rfl))) (qgs_cons (qg_name (pg_name (i := 6) sc__law_least.nd rfl (Or.inl rfl))) qgs_nil)))) (tok_seq (tok_cons (tok_name (by decide)) (tok_cons (tok_name (by decide)) tok_nil))) (fun _ _ _ _ _ => (qe_var (pv 6))))) (qa_cons qe_int qa_nil)) rfl)
    (qss_cons (qs_for (passes_of rfl) rfl (qi_rng1 rfl hf.f_range (qa_cons (qe_callBK (K := K) rfl (cb_lenK (K := K) rfl) simLen rfl hf.f_len bt_len (qa_cons (qe_var (pv 0)) qa_nil)) qa_nil)) (qg_name (pg_name (i := 3) sc__law_least.nd rfl (Or.inl rfl))) (qss_cons (qs_setN (i := 1) sc__law_least.nd rfl (Or.inl rfl) (qe_callBK (K := K) rfl (cb_sortedK (K := K) rfl) (simSortI okF) rfl hf.f_sorted bt_sorted (qa_cons (qe_var (pv 1)) qa_nil)))
    (qss_cons (qs_setN (i := 4) sc__law_least.nd rfl (Or.inl rfl) (qe_opK (K := K) rfl (op_addK (K := K) rfl) (simAdd okF) (qe_ixK (K := K) rfl hu (qe_var (pv 1)) qe_int (fun _ _ => rfl)) (qe_ixK (K := K) rfl hu (qe_var (pv 1)) qe_int (fun _ _ => rfl))))
    (qss_one (qs_parN (i := 2) (j := 1) rfl sc__law_least.nd rfl rfl (by decide) rfl rfl (qa_cons (qe_opK (K := K) rfl (op_addK (K := K) rfl) (simAdd okF) (qe_var (pv 2)) (qe_var (pv 4))) (qa_cons (qe_opK (K := K) rfl (op_addK (K := K) rfl) (simAdd okF) (qe_sliceK (K := K) rfl okF (qe_var (pv 1)) (qo_some qe_int) qo_none) (qe_lst okF (qa_cons (qe_var (pv 4)) qa_nil))) qa_nil)) rfl)))))
    (qss_one (qs_ret (qe_var (pv 2))))))⟩

abbrev N__law_made : List Str := ["counts", "leaves", "pairs", "row", "turn", "count", "kind", "below", "low", "letter"]
theorem sc__law_made : FnScope N__law_made ["counts"] (defScope (top 39)) := ⟨rfl, rfl, rfl, by decide +kernel, rfl, by decide +kernel, by decide +kernel⟩
set_option maxHeartbeats 2000000 in
theorem d__law_made (hf : HF K mg cl)  (hr : Room 0 (A.deeper (envOfC "_law_made" (defScope (top 39)) s.heap.objs.size f cdv))) :
    ∃ ts, QSs (cxOf (L2.CX P w) P w K mg base N__law_made "_law_made" (defScope (top 39)) f cdv A outer s H E) (WEx E) (defBody (top 39)) ts (w__law_made cl) := by
  have tk : Takes (cxOf (L2.CX P w) P w K mg base N__law_made "_law_made" (defScope (top 39)) f cdv A outer s H E) (WEx E) := takes_of rfl rfl rfl rfl
  have hu := hu_of hr
  exact ⟨_, (qss_cons (qs_par3N (i := 1) (j := 2) (l := 3) rfl sc__law_made.nd rfl rfl rfl (by decide) (by decide) (by decide) rfl rfl rfl (qa_cons (qe_callBK (K := K) rfl (cr_sortPU (B := 1048576)) (simSortP okF) rfl hf.f_sorted bt_sorted (qa_cons (qe_opK (K := K) rfl (op_addK (K := K) rfl) (simAdd okF) (qe_lc0 [("letter", 9), ("count", 5)] okF rfl sc__law_made.nd (qi_seq (qe_var (pv 0))) (blkOk_by (own := [("letter", 9), ("count", 5)]) (N := N__law_made) (sc := defScope (top 39)) (by decide +kernel)) (fun _ _ _ _ _ => (qg_tupK (K := K) rfl rfl (qgs_cons (qg_name (pg_name (i := 9) sc__law_made.nd rfl (Or.inl rfl))) (qgs_cons (qg_name (pg_name (i := 5) sc__law_made.nd rfl (Or.inl rfl))) qgs_nil)))) (tok_seq (tok_cons (tok_name (by decide)) (tok_cons (tok_name (by decide)) tok_nil))) (fun _ _ _ _ _ => (qe_tup (qa_cons (qe_var (pv 5)) (qa_cons (qe_var (pv 9)) qa_nil))))) (qe_lst okF (qa_cons (qe_tup (qa_cons qe_int (qa_cons qe_int qa_nil))) qa_nil))) qa_nil)) (qa_cons (qe_lst okF qa_nil) (qa_cons (qe_lst okC qa_nil) qa_nil))) rfl)
    (qss_cons (qs_for (passes_of rfl) rfl (qi_rng1 rfl hf.f_range (qa_cons (qe_opK (K := K) rfl (op_addK (K := K) rfl) (simAdd okF) (qe_opK (K := K) rfl op_mulAll (simMul okF) qe_int (qe_callBK (K := K) rfl (cb_lenK (K := K) rfl) simLen rfl hf.f_len bt_len (qa_cons (qe_var (pv 0)) qa_nil))) qe_int) qa_nil)) (qg_name (pg_name (i := 4) sc__law_made.nd rfl (Or.inl rfl))) (qss_cons (qs_if (QW.pt (qw_or (qt_not (qt_truK (K := K) rfl (qe_var (pv 2)) (fun _ => rfl))) (qw_or1 (QW.pt (qw_and (qt_truK (K := K) rfl (qe_var (pv 1)) (fun _ => rfl)) (qw_and1 (qt_cmpK (K := K) rfl op_le (simI0 fun _ _ _ => .bl _) (qe_ixK (K := K) rfl hu (qe_ixK (K := K) rfl hu (qe_var (pv 1)) qe_int (fun _ _ => rfl)) qe_int (fun _ _ => rfl)) (qe_ixK (K := K) rfl hu (qe_ixK (K := K) rfl hu (qe_var (pv 2)) qe_int (fun _ _ => rfl)) qe_int (fun _ _ => rfl)) (nomark _)))))))) (qss_cons (qs_asg (qe_ixK (K := K) rfl hu (qe_var (pv 1)) qe_int (fun _ _ => rfl)) (qg_tupK (K := K) rfl rfl (qgs_cons (qg_name (pg_name (i := 5) sc__law_made.nd rfl (Or.inl rfl))) (qgs_cons (qg_name (pg_name (i := 6) sc__law_made.nd rfl (Or.inl rfl))) qgs_nil))))
    (qss_one (qs_parN (i := 7) (j := 1) rfl sc__law_made.nd rfl rfl (by decide) rfl rfl (qa_cons (qe_lst okF qa_nil) (qa_cons (qe_sliceK (K := K) rfl okF (qe_var (pv 1)) (qo_some qe_int) qo_none) qa_nil)) rfl))) (qss_cons (qs_asg (qe_ixK (K := K) rfl hu (qe_var (pv 2)) qe_int (fun _ _ => rfl)) (qg_tupK (K := K) rfl rfl (qgs_cons (qg_name (pg_name (i := 5) sc__law_made.nd rfl (Or.inl rfl))) (qgs_cons (qg_name (pg_name (i := 7) sc__law_made.nd rfl (Or.inl rfl))) qgs_nil))))
    (qss_one (qs_parN (i := 6) (j := 2) rfl sc__law_made.nd rfl rfl (by decide) rfl rfl (qa_cons (qe_neg qe_int) (qa_cons (qe_sliceK (K := K) rfl okF (qe_var (pv 2)) (qo_some qe_int) qo_none) qa_nil)) rfl))))
    (qss_cons (qs_expr (qe_bmK (K := K) rfl PySem.F.plainAttrs_list PySem.F.slot_list_append PySem.F.type_list_append mt_append simAppend (qe_var (pv 3)) (qa_cons (qe_lst okC (qa_cons (qe_var (pv 6)) (qa_cons (qe_var (pv 5)) (qa_cons (qe_neg qe_int) qa_nil)))) qa_nil)))
    (qss_cons (qs_for (passes_of rfl) rfl (qi_seq (qe_var (pv 7))) (qg_name (pg_name (i := 8) sc__law_made.nd rfl (Or.inl rfl))) (qss_one (qs_asg (qe_opK (K := K) rfl op_sub (simI0 fun _ _ _ => .int _) (qe_callBK (K := K) rfl (cb_lenK (K := K) rfl) simLen rfl hf.f_len bt_len (qa_cons (qe_var (pv 3)) qa_nil)) qe_int) (qg_sub hu (qe_ixK (K := K) rfl hu (qe_var (pv 3)) (qe_var (pv 8)) (fun _ _ => rfl)) qe_int))))
    (qss_one (qs_if (qt_cmpK (K := K) rfl (op_eqK (K := K) rfl hr.units) simEq (qe_opK (K := K) rfl op_mod (simI fun _ _ _ => .int _) (qe_callTyK (K := K) rfl call_int1 simInt rfl hf.f_int bt_int (qa_cons (qe_callBK (K := K) rfl (cb_lenK (K := K) rfl) simLen rfl hf.f_len bt_len (qa_cons (qe_var (pv 3)) qa_nil)) qa_nil)) qe_int) qe_int (nomark _)) (qss_one (qs_setN (i := 2) sc__law_made.nd rfl (Or.inl rfl) (qe_opK (K := K) rfl (op_addK (K := K) rfl) (simAdd okF) (qe_var (pv 2)) (qe_lst okF (qa_cons (qe_tup (qa_cons (qe_opK (K := K) rfl (op_addK (K := K) rfl) (simAdd okF) (qe_ixK (K := K) rfl hu (qe_ixK (K := K) rfl hu (qe_var (pv 3)) (qe_neg qe_int) (fun _ _ => rfl)) qe_int (fun _ _ => rfl)) (qe_ixK (K := K) rfl hu (qe_ixK (K := K) rfl hu (qe_var (pv 3)) (qe_neg qe_int) (fun _ _ => rfl)) qe_int (fun _ _ => rfl))) (qa_cons (qe_lst okF (qa_cons (qe_opK (K := K) rfl op_sub (simI0 fun _ _ _ => .int _) (qe_callBK (K := K) rfl (cb_lenK (K := K) rfl) simLen rfl hf.f_len bt_len (qa_cons (qe_var (pv 3)) qa_nil)) qe_int) (qa_cons (qe_opK (K := K) rfl op_sub (simI0 fun _ _ _ => .int _) (qe_callBK (K := K) rfl (cb_lenK (K := K) rfl) simLen rfl hf.f_len bt_len (qa_cons (qe_var (pv 3)) qa_nil)) qe_int) qa_nil))) qa_nil))) qa_nil))))) qss_nil))))))
    (qss_one (qs_ret (qe_gv (qe_var (pv 3)))))))⟩

abbrev N__law_tuple : List Str := ["row", "kind", "count", "up"]
theorem sc__law_tuple : FnScope N__law_tuple ["row"] (defScope (top 40)) := ⟨rfl, rfl, rfl, by decide +kernel, rfl, by decide +kernel, by decide +kernel⟩
set_option maxHeartbeats 2000000 in
theorem d__law_tuple (hf : HF K mg cl)  (hr : Room 0 (A.deeper (envOfC "_law_tuple" (defScope (top 40)) s.heap.objs.size f cdv))) :
    ∃ ts, QSs (cxOf (L2.CX P w) P w K mg base N__law_tuple "_law_tuple" (defScope (top 40)) f cdv A outer s H E) (WEx E) (defBody (top 40)) ts (w__law_tuple cl) := by
  have tk : Takes (cxOf (L2.CX P w) P w K mg base N__law_tuple "_law_tuple" (defScope (top 40)) f cdv A outer s H E) (WEx E) := takes_of rfl rfl rfl rfl
  have hu := hu_of hr
  exact ⟨_, (qss_one (qs_ret (qe_callTyK (K := K) rfl (cb_tupleK (K := K) rfl) simTupleOf rfl hf.f_tuple bt_tuple (qa_cons (qe_lc0 [("kind", 1), ("count", 2), ("up", 3)] okF rfl sc__law_tuple.nd (qi_seq (qe_var (pv 0))) (blkOk_by (own := [("kind", 1), ("count", 2), ("up", 3)]) (N := N__law_tuple) (sc := defScope (top 40)) (by decide +kernel)) (fun _ _ _ _ _ => (qg_tupK (K := K) rfl rfl (qgs_cons (qg_name (pg_name (i := 1) sc__law_tuple.nd rfl (Or.inl rfl))) (qgs_cons (qg_name (pg_name (i := 2) sc__law_tuple.nd rfl (Or.inl rfl))) (qgs_cons (qg_name (pg_name (i := 3) sc__law_tuple.nd rfl (Or.inl rfl))) qgs_nil))))) (tok_seq (tok_cons (tok_name (by decide)) (tok_cons (tok_name (by decide)) (tok_cons (tok_name (by decide)) tok_nil)))) (fun _ _ _ _ _ => (qe_tup (qa_cons (qe_var (pv 1)) (qa_cons (qe_var (pv 2)) (qa_cons (qe_var (pv 3)) qa_nil)))))) qa_nil))))⟩

abbrev N__law_told : List Str := ["counts", "found", "e"]
theorem sc__law_told : FnScope N__law_told ["counts"] (defScope (top 41)) := ⟨rfl, rfl, rfl, by decide +kernel, rfl, by decide +kernel, by decide +kernel⟩
set_option maxHeartbeats 2000000 in
theorem d__law_told (hf : HF K mg cl) (c_made_row : DefOk P w K mg base 5 "made_row" ["counts"] (P_made_row cl)) (hr : Room 5 (A.deeper (envOfC "_law_told" (defScope (top 41)) s.heap.objs.size f cdv))) :
    ∃ ts, QSs (cxOf (L2.CX P w) P w K mg base N__law_told "_law_told" (defScope (top 41)) f cdv A outer s H E) (WEx E) (defBody (top 41)) ts (w__law_told cl (emOf K) (gdOf K)) := by
  have tk : Takes (cxOf (L2.CX P w) P w K mg base N__law_told "_law_told" (defScope (top 41)) f cdv A outer s H E) (WEx E) := takes_of rfl rfl rfl rfl
  have hu := hu_of hr
  exact ⟨_, (qss_cons (qs_try rfl rfl sc__law_told.nd tk (fun W pn xe tkb => (qss_one (qs_setN (i := 1) sc__law_told.nd rfl (Or.inl rfl) (qe_callDK (K := K) rfl c_made_row (hr.mono (by decide)) tkb rfl (qa_cons (qe_var (pv 0)) qa_nil)))))
    (.as_ (i := 2) rfl rfl ⟨rfl, by decide, .inl hf.g_BadLetter⟩ (fun xa oe xC xd pn gx hz hv => (qss_one (qs_ret (qe_tup (qa_cons qe_str (qa_cons (qe_what gx hz hv (pv 2)) qa_nil))))))
    (.as_ (i := 2) rfl rfl ⟨rfl, by decide, .inl hf.g_BadCount⟩ (fun xa oe xC xd pn gx hz hv => (qss_one (qs_ret (qe_tup (qa_cons qe_str (qa_cons (qe_what gx hz hv (pv 2)) qa_nil))))))
    (.cons ⟨rfl, by decide, .inl hf.g_Refused⟩ (fun xa oe xC xd pn gx hz hv => (qss_one (qs_ret (qe_tup (qa_cons qe_str (qa_cons qe_int qa_nil))))))
    .nil))))
    (qss_one (qs_ret (qe_tup (qa_cons qe_str (qa_cons (qe_var (pv 1)) qa_nil))))))⟩

abbrev N__law_made_right : List Str := ["counts", "row", "least", "ups", "sums", "place", "kind", "count", "up"]
theorem sc__law_made_right : FnScope N__law_made_right ["counts"] (defScope (top 42)) := ⟨rfl, rfl, rfl, by decide +kernel, rfl, by decide +kernel, by decide +kernel⟩
set_option maxHeartbeats 2000000 in
theorem d__law_made_right (hf : HF K mg cl) (c_least_sum : DefOk P w K mg base 5 "least_sum" ["counts"] (P_least_sum cl)) (c_sum_of : DefOk P w K mg base 5 "sum_of" ["row"] (P_sum_of cl)) (c_counts_in : DefOk P w K mg base 5 "counts_in" ["row"] (P_counts_in cl)) (c_row_right : DefOk P w K mg base 3 "row_right" ["row"] (P_row_right cl)) (c__law_told : DefOk P w K mg base 6 "_law_told" ["counts"] (P__law_told cl)) (c__law_least : DefOk P w K mg base 1 "_law_least" ["counts"] (P__law_least cl)) (c__law_tuple : DefOk P w K mg base 1 "_law_tuple" ["row"] (P__law_tuple cl)) (c__law_made : DefOk P w K mg base 1 "_law_made" ["counts"] (P__law_made cl)) (ck_made_row : KwOk P w K mg base 5 "made_row" ["counts"] (P_made_row cl)) (hr : Room 6 (A.deeper (envOfC "_law_made_right" (defScope (top 42)) s.heap.objs.size f cdv))) :
    ∃ ts, QSs (cxOf (L2.CX P w) P w K mg base N__law_made_right "_law_made_right" (defScope (top 42)) f cdv A outer s H E) (WEx E) (defBody (top 42)) ts (w__law_made_right cl) := by
  have tk : Takes (cxOf (L2.CX P w) P w K mg base N__law_made_right "_law_made_right" (defScope (top 42)) f cdv A outer s H E) (WEx E) := takes_of rfl rfl rfl rfl
  have hu := hu_of hr
  exact ⟨_, (qss_cons (qs_asg (qe_tup (qa_cons (qe_callDK (K := K) rfl c__law_tuple (hr.mono (by decide)) tk rfl (qa_cons (qe_callDK (K := K) rfl c__law_made (hr.mono (by decide)) tk rfl (qa_cons (qe_var (pv 0)) qa_nil)) qa_nil)) (qa_cons (qe_callDK (K := K) rfl c__law_least (hr.mono (by decide)) tk rfl (qa_cons (qe_var (pv 0)) qa_nil)) qa_nil))) (qg_tupK (K := K) rfl rfl (qgs_cons (qg_name (pg_name (i := 1) sc__law_made_right.nd rfl (Or.inr rfl))) (qgs_cons (qg_name (pg_name (i := 2) sc__law_made_right.nd rfl (Or.inl rfl))) qgs_nil))))
    (qss_cons (qs_if (QW.pt (qw_or (qt_cmpK (K := K) rfl (op_neK (K := K) rfl hr.units) simNe (qe_callDK (K := K) rfl c__law_told (hr.mono (by decide)) tk rfl (qa_cons (qe_var (pv 0)) qa_nil)) (qe_tup (qa_cons qe_str (qa_cons (qe_var (pv 1)) qa_nil))) (nomark _)) (qw_or (qt_cmpK (K := K) rfl (op_neK (K := K) rfl hr.units) simNe (qe_callKw (K := K) rfl ck_made_row (hr.mono (by decide)) tk rfl (qk_cons (qe_var (pv 0)) qk_nil)) (qe_var (pv 1)) (nomark _)) (qw_or1 (qt_not (qt_truK (K := K) rfl (qe_callDK (K := K) rfl c_row_right (hr.mono (by decide)) tk rfl (qa_cons (qe_var (pv 1)) qa_nil)) (fun _ => rfl))))))) (qss_one (qs_ret qe_bl)) qss_nil)
    (qss_cons (qs_if (QW.pt (qw_or (qt_cmpK (K := K) rfl (op_neK (K := K) rfl hr.units) simNe (qe_callDK (K := K) rfl c_counts_in (hr.mono (by decide)) tk rfl (qa_cons (qe_var (pv 1)) qa_nil)) (qe_var (pv 0)) (nomark _)) (qw_or (qt_cmpK (K := K) rfl (op_neK (K := K) rfl hr.units) simNe (qe_callDK (K := K) rfl c_sum_of (hr.mono (by decide)) tk rfl (qa_cons (qe_var (pv 1)) qa_nil)) (qe_var (pv 2)) (nomark _)) (qw_or1 (qt_cmpK (K := K) rfl (op_neK (K := K) rfl hr.units) simNe (qe_callDK (K := K) rfl c_least_sum (hr.mono (by decide)) tk rfl (qa_cons (qe_var (pv 0)) qa_nil)) (qe_var (pv 2)) (nomark _)))))) (qss_one (qs_ret qe_bl)) qss_nil)
    (qss_cons (qs_asg (qe_tup (qa_cons (qe_lc0 [("kind", 6), ("count", 7), ("up", 8)] okF rfl sc__law_made_right.nd (qi_seq (qe_var (pv 1))) (blkOk_by (own := [("kind", 6), ("count", 7), ("up", 8)]) (N := N__law_made_right) (sc := defScope (top 42)) (by decide +kernel)) (fun _ _ _ _ _ => (qg_tupK (K := K) rfl rfl (qgs_cons (qg_name (pg_name (i := 6) sc__law_made_right.nd rfl (Or.inl rfl))) (qgs_cons (qg_name (pg_name (i := 7) sc__law_made_right.nd rfl (Or.inl rfl))) (qgs_cons (qg_name (pg_name (i := 8) sc__law_made_right.nd rfl (Or.inl rfl))) qgs_nil))))) (tok_seq (tok_cons (tok_name (by decide)) (tok_cons (tok_name (by decide)) (tok_cons (tok_name (by decide)) tok_nil)))) (fun _ _ _ _ _ => (qe_var (pv 8)))) (qa_cons (qe_opK (K := K) rfl op_mulAll (simMul okC) (qe_lst okF (qa_cons qe_int qa_nil)) (qe_callBK (K := K) rfl (cb_lenK (K := K) rfl) simLen rfl hf.f_len bt_len (qa_cons (qe_var (pv 1)) qa_nil))) qa_nil))) (qg_tupK (K := K) rfl rfl (qgs_cons (qg_name (pg_name (i := 3) sc__law_made_right.nd rfl (Or.inl rfl))) (qgs_cons (qg_name (pg_name (i := 4) sc__law_made_right.nd rfl (Or.inr rfl))) qgs_nil))))
    (qss_cons (qs_for (passes_of rfl) rfl (qi_rng1 rfl hf.f_range (qa_cons (qe_opK (K := K) rfl op_sub (simI0 fun _ _ _ => .int _) (qe_callBK (K := K) rfl (cb_lenK (K := K) rfl) simLen rfl hf.f_len bt_len (qa_cons (qe_var (pv 1)) qa_nil)) qe_int) qa_nil)) (qg_name (pg_name (i := 5) sc__law_made_right.nd rfl (Or.inl rfl))) (qss_one (qs_asg (qe_opK (K := K) rfl (op_addK (K := K) rfl) (simAdd okF) (qe_ixK (K := K) rfl hu (qe_var (pv 4)) (qe_ixK (K := K) rfl hu (qe_var (pv 3)) (qe_var (pv 5)) (fun _ _ => rfl)) (fun _ _ => rfl)) (qe_ixK (K := K) rfl hu (qe_ixK (K := K) rfl hu (qe_var (pv 1)) (qe_var (pv 5)) (fun _ _ => rfl)) qe_int (fun _ _ => rfl))) (qg_sub hu (qe_var (pv 4)) (qe_ixK (K := K) rfl hu (qe_var (pv 3)) (qe_var (pv 5)) (fun _ _ => rfl))))))
    (qss_one (qs_ret (qe_cmpK (K := K) rfl (op_eqK (K := K) rfl hr.units) simEq (qe_lc1 [("place", 5)] okF rfl sc__law_made_right.nd (qi_rng1 rfl hf.f_range (qa_cons (qe_callBK (K := K) rfl (cb_lenK (K := K) rfl) simLen rfl hf.f_len bt_len (qa_cons (qe_var (pv 1)) qa_nil)) qa_nil)) (blkOk_by (own := [("place", 5)]) (N := N__law_made_right) (sc := defScope (top 42)) (by decide +kernel)) (fun _ _ _ _ _ => (qg_name (pg_name (i := 5) sc__law_made_right.nd rfl (Or.inl rfl)))) (tok_name (by decide)) (fun _ _ _ _ _ => (QW.pt (qw_and (qt_cmpK (K := K) rfl (op_eqK (K := K) rfl hr.units) simEq (qe_ixK (K := K) rfl hu (qe_ixK (K := K) rfl hu (qe_var (pv 1)) (qe_var (pv 5)) (fun _ _ => rfl)) qe_int (fun _ _ => rfl)) (qe_neg qe_int) (nomark _)) (qw_and1 (qt_cmpK (K := K) rfl (op_neK (K := K) rfl hr.units) simNe (qe_ixK (K := K) rfl hu (qe_var (pv 4)) (qe_var (pv 5)) (fun _ _ => rfl)) (qe_ixK (K := K) rfl hu (qe_ixK (K := K) rfl hu (qe_var (pv 1)) (qe_var (pv 5)) (fun _ _ => rfl)) qe_int (fun _ _ => rfl)) (nomark _)))))) (fun _ _ _ _ _ => qe_int)) (qe_lst okF qa_nil) (nomark _)))))))))⟩

abbrev N__law_fault_right : List Str := ["source", "counts", "row", "at", "letter", "count", "behind", "way", "pair"]
theorem sc__law_fault_right : FnScope N__law_fault_right ["source", "counts"] (defScope (top 43)) := ⟨rfl, rfl, rfl, by decide +kernel, rfl, by decide +kernel, by decide +kernel⟩
set_option maxHeartbeats 2000000 in
theorem d__law_fault_right (hf : HF K mg cl) (c__law_told : DefOk P w K mg base 6 "_law_told" ["counts"] (P__law_told cl)) (c__law_take : DefOk P w K mg base 1 "_law_take" ["source", "top"] (P__law_take cl)) (c__law_one : DefOk P w K mg base 2 "_law_one" ["source", "things"] (P__law_one cl)) (hr : Room 6 (A.deeper (envOfC "_law_fault_right" (defScope (top 43)) s.heap.objs.size f cdv))) :
    ∃ ts, QSs (cxOf (L2.CX P w) P w K mg base N__law_fault_right "_law_fault_right" (defScope (top 43)) f cdv A outer s H E) (WEx E) (defBody (top 43)) ts (w__law_fault_right cl) := by
  have tk : Takes (cxOf (L2.CX P w) P w K mg base N__law_fault_right "_law_fault_right" (defScope (top 43)) f cdv A outer s H E) (WEx E) := takes_of rfl rfl rfl rfl
  have hu := hu_of hr
  exact ⟨_, (qss_cons (qs_parN (i := 2) (j := 3) rfl sc__law_fault_right.nd rfl rfl (by decide) rfl rfl (qa_cons (qe_lc0 [("pair", 8)] okC rfl sc__law_fault_right.nd (qi_seq (qe_var (pv 1))) (blkOk_by (own := [("pair", 8)]) (N := N__law_fault_right) (sc := defScope (top 43)) (by decide +kernel)) (fun _ _ _ _ _ => (qg_name (pg_name (i := 8) sc__law_fault_right.nd rfl (Or.inl rfl)))) (tok_name (by decide)) (fun _ _ _ _ _ => (qe_var (pv 8)))) (qa_cons (qe_callDK (K := K) rfl c__law_take (hr.mono (by decide)) tk rfl (qa_cons (qe_var (pv 0)) (qa_cons (qe_callBK (K := K) rfl (cb_lenK (K := K) rfl) simLen rfl hf.f_len bt_len (qa_cons (qe_var (pv 1)) qa_nil)) qa_nil))) qa_nil)) rfl)
    (qss_cons (qs_asg (qe_ixK (K := K) rfl hu (qe_var (pv 2)) (qe_var (pv 3)) (fun _ _ => rfl)) (qg_tupK (K := K) rfl rfl (qgs_cons (qg_name (pg_name (i := 4) sc__law_fault_right.nd rfl (Or.inl rfl))) (qgs_cons (qg_name (pg_name (i := 5) sc__law_fault_right.nd rfl (Or.inl rfl))) qgs_nil))))
    (qss_cons (qs_for (passes_of rfl) rfl (qi_rng2 rfl hf.f_range (qa_cons (qe_opK (K := K) rfl (op_addK (K := K) rfl) (simAdd okF) (qe_var (pv 3)) qe_int) (qa_cons (qe_callBK (K := K) rfl (cb_lenK (K := K) rfl) simLen rfl hf.f_len bt_len (qa_cons (qe_var (pv 2)) qa_nil)) qa_nil))) (qg_name (pg_name (i := 6) sc__law_fault_right.nd rfl (Or.inl rfl))) (qss_one (qs_if (qt_cmpK (K := K) rfl (op_eqK (K := K) rfl hr.units) simEq (qe_callDK (K := K) rfl c__law_take (hr.mono (by decide)) tk rfl (qa_cons (qe_var (pv 0)) (qa_cons qe_int qa_nil))) qe_int (nomark _)) (qss_one (qs_asg (qe_tup (qa_cons (qe_callDK (K := K) rfl c__law_one (hr.mono (by decide)) tk rfl (qa_cons (qe_var (pv 0)) (qa_cons (qe_lst okF (qa_cons qe_int (qa_cons (qe_ixK (K := K) rfl hu (qe_ixK (K := K) rfl hu (qe_var (pv 2)) (qe_var (pv 6)) (fun _ _ => rfl)) qe_int (fun _ _ => rfl)) qa_nil))) qa_nil))) (qa_cons qe_int qa_nil))) (qg_sub hu (qe_var (pv 2)) (qe_var (pv 6))))) qss_nil)))
    (qss_cons (qs_setN (i := 7) sc__law_fault_right.nd rfl (Or.inl rfl) (qe_callDK (K := K) rfl c__law_take (hr.mono (by decide)) tk rfl (qa_cons (qe_var (pv 0)) (qa_cons qe_int qa_nil))))
    (qss_cons (qs_if (qt_cmpK (K := K) rfl (op_eqK (K := K) rfl hr.units) simEq (qe_var (pv 7)) qe_int (nomark _)) (qss_cons (qs_asg (qe_tup (qa_cons (qe_callDK (K := K) rfl c__law_one (hr.mono (by decide)) tk rfl (qa_cons (qe_var (pv 0)) (qa_cons (qe_lst okF (qa_cons (qe_neg qe_int) (qa_cons qe_int (qa_cons (qe_opK (K := K) rfl op_pow (simI fun _ _ _ => .int _) qe_int qe_int) (qa_cons (qe_neg (qe_opK (K := K) rfl op_pow (simI fun _ _ _ => .int _) qe_int qe_int)) qa_nil))))) qa_nil))) (qa_cons (qe_callDK (K := K) rfl c__law_one (hr.mono (by decide)) tk rfl (qa_cons (qe_var (pv 0)) (qa_cons (qe_lst okF (qa_cons (qe_var (pv 5)) (qa_cons qe_int qa_nil))) qa_nil))) qa_nil))) (qg_sub hu (qe_var (pv 2)) (qe_var (pv 3))))
    (qss_one (qs_ret (qe_cmpK (K := K) rfl (op_eqK (K := K) rfl hr.units) simEq (qe_callDK (K := K) rfl c__law_told (hr.mono (by decide)) tk rfl (qa_cons (qe_callTyK (K := K) rfl (cb_tupleK (K := K) rfl) simTupleOf rfl hf.f_tuple bt_tuple (qa_cons (qe_var (pv 2)) qa_nil)) qa_nil)) (qe_tup (qa_cons qe_str (qa_cons (qe_ixK (K := K) rfl hu (qe_ixK (K := K) rfl hu (qe_var (pv 2)) (qe_var (pv 3)) (fun _ _ => rfl)) qe_int (fun _ _ => rfl)) qa_nil))) (nomark _))))) qss_nil)
    (qss_cons (qs_if (qt_cmpK (K := K) rfl (op_eqK (K := K) rfl hr.units) simEq (qe_var (pv 7)) qe_int (nomark _)) (qss_cons (qs_asg (qe_tup (qa_cons (qe_var (pv 4)) (qa_cons (qe_callDK (K := K) rfl c__law_one (hr.mono (by decide)) tk rfl (qa_cons (qe_var (pv 0)) (qa_cons (qe_lst okF (qa_cons qe_int (qa_cons (qe_neg qe_int) (qa_cons qe_int (qa_cons (qe_opK (K := K) rfl op_pow (simI fun _ _ _ => .int _) qe_int qe_int) qa_nil))))) qa_nil))) qa_nil))) (qg_sub hu (qe_var (pv 2)) (qe_var (pv 3))))
    (qss_one (qs_ret (qe_cmpK (K := K) rfl (op_eqK (K := K) rfl hr.units) simEq (qe_callDK (K := K) rfl c__law_told (hr.mono (by decide)) tk rfl (qa_cons (qe_callTyK (K := K) rfl (cb_tupleK (K := K) rfl) simTupleOf rfl hf.f_tuple bt_tuple (qa_cons (qe_var (pv 2)) qa_nil)) qa_nil)) (qe_tup (qa_cons qe_str (qa_cons (qe_var (pv 3)) qa_nil))) (nomark _))))) qss_nil)
    (qss_cons (qs_expr (qe_bmK (K := K) rfl PySem.F.plainAttrs_list PySem.F.slot_list_insert PySem.F.type_list_insert mt_insertM simInsert (qe_var (pv 2)) (qa_cons (qe_opK (K := K) rfl (op_addK (K := K) rfl) (simAdd okF) (qe_var (pv 3)) qe_int) (qa_cons (qe_tup (qa_cons (qe_ifE (qt_cmpK (K := K) rfl (op_eqK (K := K) rfl hr.units) simEq (qe_var (pv 7)) qe_int (nomark _)) (qe_var (pv 4)) (qe_callDK (K := K) rfl c__law_take (hr.mono (by decide)) tk rfl (qa_cons (qe_var (pv 0)) (qa_cons (qe_opK (K := K) rfl (op_addK (K := K) rfl) (simAdd okF) (qe_var (pv 4)) qe_int) qa_nil)))) (qa_cons qe_int qa_nil))) qa_nil))))
    (qss_one (qs_ret (qe_cmpK (K := K) rfl (op_eqK (K := K) rfl hr.units) simEq (qe_callDK (K := K) rfl c__law_told (hr.mono (by decide)) tk rfl (qa_cons (qe_callTyK (K := K) rfl (cb_tupleK (K := K) rfl) simTupleOf rfl hf.f_tuple bt_tuple (qa_cons (qe_var (pv 2)) qa_nil)) qa_nil)) (qe_tup (qa_cons qe_str (qa_cons (qe_opK (K := K) rfl (op_addK (K := K) rfl) (simAdd okF) (qe_var (pv 3)) qe_int) qa_nil))) (nomark _)))))))))))⟩

abbrev N__law_right : List Str := ["source", "counts", "step", "letter"]
theorem sc__law_right : FnScope N__law_right ["source"] (defScope (top 44)) := ⟨rfl, rfl, rfl, by decide +kernel, rfl, by decide +kernel, by decide +kernel⟩
set_option maxHeartbeats 2000000 in
theorem d__law_right (hf : HF K mg cl) (c__law_made_right : DefOk P w K mg base 7 "_law_made_right" ["counts"] (P__law_made_right cl)) (c__law_take : DefOk P w K mg base 1 "_law_take" ["source", "top"] (P__law_take cl)) (c__law_fault_right : DefOk P w K mg base 7 "_law_fault_right" ["source", "counts"] (P__law_fault_right cl)) (c__law_counted : DefOk P w K mg base 1 "_law_counted" ["letters"] (P__law_counted cl)) (c__law_letters : DefOk P w K mg base 4 "_law_letters" ["source", "most"] (P__law_letters cl)) (c__law_counts : DefOk P w K mg base 4 "_law_counts" ["source", "most"] (P__law_counts cl)) (hr : Room 7 (A.deeper (envOfC "_law_right" (defScope (top 44)) s.heap.objs.size f cdv))) :
    ∃ ts, QSs (cxOf (L2.CX P w) P w K mg base N__law_right "_law_right" (defScope (top 44)) f cdv A outer s H E) (WEx E) (defBody (top 44)) ts (w__law_right cl) := by
  have tk : Takes (cxOf (L2.CX P w) P w K mg base N__law_right "_law_right" (defScope (top 44)) f cdv A outer s H E) (WEx E) := takes_of rfl rfl rfl rfl
  have hu := hu_of hr
  exact ⟨_, (qss_cons (qs_setN (i := 1) sc__law_right.nd rfl (Or.inl rfl) (qe_callDK (K := K) rfl c__law_counts (hr.mono (by decide)) tk rfl (qa_cons (qe_var (pv 0)) (qa_cons qe_int qa_nil))))
    (qss_cons (qs_if (qt_cmpK (K := K) rfl (op_eqK (K := K) rfl hr.units) simEq (qe_callDK (K := K) rfl c__law_take (hr.mono (by decide)) tk rfl (qa_cons (qe_var (pv 0)) (qa_cons qe_int qa_nil))) qe_int (nomark _)) (qss_one (qs_setN (i := 1) sc__law_right.nd rfl (Or.inl rfl) (qe_callDK (K := K) rfl c__law_counted (hr.mono (by decide)) tk rfl (qa_cons (qe_callDK (K := K) rfl c__law_letters (hr.mono (by decide)) tk rfl (qa_cons (qe_var (pv 0)) (qa_cons qe_int qa_nil))) qa_nil)))) qss_nil)
    (qss_cons (qs_if (qt_not (qt_truK (K := K) rfl (qe_callDK (K := K) rfl c__law_made_right (hr.mono (by decide)) tk rfl (qa_cons (qe_var (pv 1)) qa_nil)) (fun _ => rfl))) (qss_one (qs_ret qe_bl)) qss_nil)
    (qss_cons (qs_if (QW.pt (qw_and (qt_truK (K := K) rfl (qe_var (pv 1)) (fun _ => rfl)) (qw_and (qt_cmpK (K := K) rfl (op_eqK (K := K) rfl hr.units) simEq (qe_callDK (K := K) rfl c__law_take (hr.mono (by decide)) tk rfl (qa_cons (qe_var (pv 0)) (qa_cons qe_int qa_nil))) qe_int (nomark _)) (qw_and1 (QW.pt (qw_or (qt_not (qt_truK (K := K) rfl (qe_callDK (K := K) rfl c__law_fault_right (hr.mono (by decide)) tk rfl (qa_cons (qe_var (pv 0)) (qa_cons (qe_var (pv 1)) qa_nil))) (fun _ => rfl))) (qw_or1 (qt_not (qt_truK (K := K) rfl (qe_callDK (K := K) rfl c__law_made_right (hr.mono (by decide)) tk rfl (qa_cons (qe_var (pv 1)) qa_nil)) (fun _ => rfl)))))))))) (qss_one (qs_ret qe_bl)) qss_nil)
    (qss_cons (qs_if (qt_cmpK (K := K) rfl op_gt (simI0 fun _ _ _ => .bl _) (qe_callDK (K := K) rfl c__law_take (hr.mono (by decide)) tk rfl (qa_cons (qe_var (pv 0)) (qa_cons qe_int qa_nil))) qe_int (nomark _)) (qss_one (qs_ret qe_bl)) qss_nil)
    (qss_cons (qs_setN (i := 2) sc__law_right.nd rfl (Or.inr rfl) (qe_opK (K := K) rfl (op_addK (K := K) rfl) (simAdd okF) qe_int (qe_callDK (K := K) rfl c__law_take (hr.mono (by decide)) tk rfl (qa_cons (qe_var (pv 0)) (qa_cons qe_int qa_nil)))))
    (qss_one (qs_ret (qe_callDK (K := K) rfl c__law_made_right (hr.mono (by decide)) tk rfl (qa_cons (qe_callTyK (K := K) rfl (cb_tupleK (K := K) rfl) simTupleOf rfl hf.f_tuple bt_tuple (qa_cons (qe_lc0 [("letter", 3)] okF rfl sc__law_right.nd (qi_rng1 rfl hf.f_range (qa_cons qe_int qa_nil)) (blkOk_by (own := [("letter", 3)]) (N := N__law_right) (sc := defScope (top 44)) (by decide +kernel)) (fun _ _ _ _ _ => (qg_name (pg_name (i := 3) sc__law_right.nd rfl (Or.inl rfl)))) (tok_name (by decide)) (fun _ _ _ _ _ => (qe_tup (qa_cons (qe_var (pv 3)) (qa_cons (qe_opK (K := K) rfl (op_addK (K := K) rfl) (simAdd okF) qe_int (qe_opK (K := K) rfl op_mod (simI fun _ _ _ => .int _) (qe_callTyK (K := K) rfl call_int1 simInt rfl hf.f_int bt_int (qa_cons (qe_opK (K := K) rfl op_mulAll (simMul okF) (qe_var (pv 3)) (qe_var (pv 2))) qa_nil)) qe_int)) qa_nil))))) qa_nil)) qa_nil))))))))))⟩

abbrev N_law : List Str := ["script", "k"]
theorem sc_law : FnScope N_law ["script"] (defScope (top 45)) := ⟨rfl, rfl, rfl, by decide +kernel, rfl, by decide +kernel, by decide +kernel⟩
set_option maxHeartbeats 2000000 in
theorem d_law (hf : HF K mg cl) (c_made_row : DefOk P w K mg base 5 "made_row" ["counts"] (P_made_row cl)) (c__law_right : DefOk P w K mg base 8 "_law_right" ["source"] (P__law_right cl)) (c__law_pool : DefOk P w K mg base 1 "_law_pool" ["script", "k"] (P__law_pool cl)) (hr : Room 8 (A.deeper (envOfC "law" (defScope (top 45)) s.heap.objs.size f cdv))) :
    ∃ ts, QSs (cxOf (L2.CX P w) P w K mg base N_law "law" (defScope (top 45)) f cdv A outer s H E) (WEx E) (defBody (top 45)) ts (w_law cl) := by
  have tk : Takes (cxOf (L2.CX P w) P w K mg base N_law "law" (defScope (top 45)) f cdv A outer s H E) (WEx E) := takes_of rfl rfl rfl rfl
  have hu := hu_of hr
  exact ⟨_, (qss_cons (qs_for (passes_of rfl) rfl (qi_rng1 rfl hf.f_range (qa_cons (qe_callBK (K := K) rfl (call_max2 rfl) simI2 rfl hf.f_max bt_max (qa_cons qe_int (qa_cons (qe_callBK (K := K) rfl (call_min2 rfl) simI2 rfl hf.f_min bt_min (qa_cons (qe_callBK (K := K) rfl (cb_lenK (K := K) rfl) simLen rfl hf.f_len bt_len (qa_cons (qe_var (pv 0)) qa_nil)) (qa_cons qe_int qa_nil))) qa_nil))) qa_nil)) (qg_name (pg_name (i := 1) sc_law.nd rfl (Or.inl rfl))) (qss_one (qs_if (qt_not (qt_truK (K := K) rfl (qe_callDK (K := K) rfl c__law_right (hr.mono (by decide)) tk rfl (qa_cons (qe_callDK (K := K) rfl c__law_pool (hr.mono (by decide)) tk rfl (qa_cons (qe_var (pv 0)) (qa_cons (qe_var (pv 1)) qa_nil))) qa_nil)) (fun _ => rfl))) (qss_one (qs_ret qe_bl)) qss_nil)))
    (qss_cons (qs_if (qt_cmpK (K := K) rfl (op_neK (K := K) rfl hr.units) simNe (qe_callDK (K := K) rfl c_made_row (hr.mono (by decide)) tk rfl (qa_cons (qe_tup (qa_cons (qe_tup (qa_cons qe_int (qa_cons qe_int qa_nil))) (qa_cons (qe_tup (qa_cons qe_int (qa_cons qe_int qa_nil))) qa_nil))) qa_nil)) (qe_tup (qa_cons (qe_tup (qa_cons qe_int (qa_cons qe_int (qa_cons qe_int qa_nil)))) (qa_cons (qe_tup (qa_cons qe_int (qa_cons qe_int (qa_cons qe_int qa_nil)))) (qa_cons (qe_tup (qa_cons qe_int (qa_cons qe_int (qa_cons qe_int qa_nil)))) (qa_cons (qe_tup (qa_cons (qe_neg qe_int) (qa_cons qe_int (qa_cons qe_int qa_nil)))) (qa_cons (qe_tup (qa_cons (qe_neg qe_int) (qa_cons qe_int (qa_cons (qe_neg qe_int) qa_nil)))) qa_nil)))))) (nomark _)) (qss_one (qs_ret qe_bl)) qss_nil)
    (qss_one (qs_ret (qe_cmpK (K := K) rfl (op_eqK (K := K) rfl hr.units) simEq (qe_callDK (K := K) rfl c_made_row (hr.mono (by decide)) tk rfl (qa_cons (qe_tup qa_nil) qa_nil)) (qe_tup (qa_cons (qe_tup (qa_cons qe_int (qa_cons qe_int (qa_cons (qe_neg qe_int) qa_nil)))) qa_nil)) (nomark _))))))⟩

end
end LS
namespace LS
open PySem PySem.Spec PyProof.Rows L2 DL

def dd_sup : SuD := ⟨("Refused", some "__init__"), "__init__", "Refused.__init__", defArgs (mth 1 0), defBody (mth 1 0), defScope (mth 1 0), "Refused"⟩
def dd_is_whole : He.DefD := ⟨("is_whole", none), "is_whole", "is_whole", defArgs (top 8), defBody (top 8), defScope (top 8), [], []⟩
def dd_want_letter : He.DefD := ⟨("want_letter", none), "want_letter", "want_letter", defArgs (top 9), defBody (top 9), defScope (top 9), [], []⟩
def dd_want_counts : He.DefD := ⟨("want_counts", none), "want_counts", "want_counts", defArgs (top 10), defBody (top 10), defScope (top 10), [], []⟩
def dd_is_joint : He.DefD := ⟨("is_joint", none), "is_joint", "is_joint", defArgs (top 14), defBody (top 14), defScope (top 14), [], []⟩
def dd_leaves_fit : He.DefD := ⟨("leaves_fit", none), "leaves_fit", "leaves_fit", defArgs (top 15), defBody (top 15), defScope (top 15), [], []⟩
def dd_order_fits : He.DefD := ⟨("order_fits", none), "order_fits", "order_fits", defArgs (top 16), defBody (top 16), defScope (top 16), [], []⟩
def dd_ups_fit : He.DefD := ⟨("ups_fit", none), "ups_fit", "ups_fit", defArgs (top 17), defBody (top 17), defScope (top 17), [], []⟩
def dd_row_right : He.DefD := ⟨("row_right", none), "row_right", "row_right", defArgs (top 18), defBody (top 18), defScope (top 18), [], []⟩
def dd_want_row : He.DefD := ⟨("want_row", none), "want_row", "want_row", defArgs (top 19), defBody (top 19), defScope (top 19), [], []⟩
def dd_Making___init__ : He.DefD := ⟨("Making", some "__init__"), "__init__", "Making.__init__", defArgs (mth 21 0), defBody (mth 21 0), defScope (mth 21 0), [], []⟩
def dd_Making_many : He.DefD := ⟨("Making", some "many"), "many", "Making.many", defArgs (mth 21 1), defBody (mth 21 1), defScope (mth 21 1), [], []⟩
def dd_Making_place_least : He.DefD := ⟨("Making", some "place_least"), "place_least", "Making.place_least", defArgs (mth 21 2), defBody (mth 21 2), defScope (mth 21 2), [], []⟩
def dd_Making_join : He.DefD := ⟨("Making", some "join"), "join", "Making.join", defArgs (mth 21 3), defBody (mth 21 3), defScope (mth 21 3), [], []⟩
def dd_made_row : He.DefD := ⟨("made_row", none), "made_row", "made_row", defArgs (top 22), defBody (top 22), defScope (top 22), [], []⟩
def dd_take_least : He.DefD := ⟨("take_least", none), "take_least", "take_least", defArgs (top 24), defBody (top 24), defScope (top 24), [], []⟩
def dd_least_of : He.DefD := ⟨("least_of", none), "least_of", "least_of", defArgs (top 25), defBody (top 25), defScope (top 25), [], []⟩
def dd_least_sum : He.DefD := ⟨("least_sum", none), "least_sum", "least_sum", defArgs (top 26), defBody (top 26), defScope (top 26), [], []⟩
def dd_counts_in : He.DefD := ⟨("counts_in", none), "counts_in", "counts_in", defArgs (top 28), defBody (top 28), defScope (top 28), [], []⟩
def dd_sum_of : He.DefD := ⟨("sum_of", none), "sum_of", "sum_of", defArgs (top 29), defBody (top 29), defScope (top 29), [], []⟩
def dd__law_pool : He.DefD := ⟨("_law_pool", none), "_law_pool", "_law_pool", defArgs (top 31), defBody (top 31), defScope (top 31), [], []⟩
def dd__law_take : He.DefD := ⟨("_law_take", none), "_law_take", "_law_take", defArgs (top 32), defBody (top 32), defScope (top 32), [], []⟩
def dd__law_one : He.DefD := ⟨("_law_one", none), "_law_one", "_law_one", defArgs (top 33), defBody (top 33), defScope (top 33), [], []⟩
def dd__law_alphabet : He.DefD := ⟨("_law_alphabet", none), "_law_alphabet", "_law_alphabet", defArgs (top 34), defBody (top 34), defScope (top 34), [], []⟩
def dd__law_letters : He.DefD := ⟨("_law_letters", none), "_law_letters", "_law_letters", defArgs (top 35), defBody (top 35), defScope (top 35), [], []⟩
def dd__law_counts : He.DefD := ⟨("_law_counts", none), "_law_counts", "_law_counts", defArgs (top 36), defBody (top 36), defScope (top 36), [], []⟩
def dd__law_counted : He.DefD := ⟨("_law_counted", none), "_law_counted", "_law_counted", defArgs (top 37), defBody (top 37), defScope (top 37), [], []⟩
def dd__law_least : He.DefD := ⟨("_law_least", none), "_law_least", "_law_least", defArgs (top 38), defBody (top 38), defScope (top 38), [], []⟩
def dd__law_made : He.DefD := ⟨("_law_made", none), "_law_made", "_law_made", defArgs (top 39), defBody (top 39), defScope (top 39), [], []⟩
def dd__law_tuple : He.DefD := ⟨("_law_tuple", none), "_law_tuple", "_law_tuple", defArgs (top 40), defBody (top 40), defScope (top 40), [], []⟩
def dd__law_told : He.DefD := ⟨("_law_told", none), "_law_told", "_law_told", defArgs (top 41), defBody (top 41), defScope (top 41), [], []⟩
def dd__law_made_right : He.DefD := ⟨("_law_made_right", none), "_law_made_right", "_law_made_right", defArgs (top 42), defBody (top 42), defScope (top 42), [], []⟩
def dd__law_fault_right : He.DefD := ⟨("_law_fault_right", none), "_law_fault_right", "_law_fault_right", defArgs (top 43), defBody (top 43), defScope (top 43), [], []⟩
def dd__law_right : He.DefD := ⟨("_law_right", none), "_law_right", "_law_right", defArgs (top 44), defBody (top 44), defScope (top 44), [], []⟩
def dd_law : He.DefD := ⟨("law", none), "law", "law", defArgs (top 45), defBody (top 45), defScope (top 45), [], []⟩
theorem len_is_whole (cl : Str → Addr) : ∀ ds cs Φ Ψ, P_is_whole cl ds cs Φ Ψ → ds.length = 1 := fun ds cs Φ Ψ h => by
  first | (obtain ⟨rfl, _⟩ := h; rfl; done) | (obtain ⟨_, rfl, _⟩ := h; rfl; done) | (obtain ⟨_, _, rfl, _⟩ := h; rfl; done) | (obtain ⟨_, _, _, rfl, _⟩ := h; rfl; done) | (obtain ⟨_, _, _, _, rfl, _⟩ := h; rfl; done) | (obtain ⟨_, _, _, _, _, rfl, _⟩ := h; rfl; done) | (obtain ⟨_, _, _, _, _, _, rfl, _⟩ := h; rfl; done) | (obtain ⟨_, _, _, _, _, _, _, rfl, _⟩ := h; rfl; done) | (obtain ⟨_, _, _, _, _, _, _, _, rfl, _⟩ := h; rfl; done) | (obtain ⟨_, _, _, _, _, _, _, _, _, rfl, _⟩ := h; rfl; done) | (obtain ⟨_, _, _, _, _, _, _, _, _, _, rfl, _⟩ := h; rfl; done) | (rcases h with h | h | h <;> first | (obtain ⟨rfl, _⟩ := h; rfl; done) | (obtain ⟨_, rfl, _⟩ := h; rfl; done) | (obtain ⟨_, _, rfl, _⟩ := h; rfl; done) | (obtain ⟨_, _, _, rfl, _⟩ := h; rfl; done) | (obtain ⟨_, _, _, _, rfl, _⟩ := h; rfl; done) | (obtain ⟨_, _, _, _, _, rfl, _⟩ := h; rfl; done) | (obtain ⟨_, _, _, _, _, _, rfl, _⟩ := h; rfl; done) | (obtain ⟨_, _, _, _, _, _, _, rfl, _⟩ := h; rfl; done) | (obtain ⟨_, _, _, _, _, _, _, _, rfl, _⟩ := h; rfl; done) | (obtain ⟨_, _, _, _, _, _, _, _, _, rfl, _⟩ := h; rfl; done) | (obtain ⟨_, _, _, _, _, _, _, _, _, _, rfl, _⟩ := h; rfl; done) | (rcases h with ⟨rfl | rfl, _⟩ <;> rfl) | (rcases h with ⟨rfl | rfl | rfl, _⟩ <;> rfl)) | (rcases h with h | h <;> first | (obtain ⟨rfl, _⟩ := h; rfl; done) | (obtain ⟨_, rfl, _⟩ := h; rfl; done) | (obtain ⟨_, _, rfl, _⟩ := h; rfl; done) | (obtain ⟨_, _, _, rfl, _⟩ := h; rfl; done) | (obtain ⟨_, _, _, _, rfl, _⟩ := h; rfl; done) | (obtain ⟨_, _, _, _, _, rfl, _⟩ := h; rfl; done) | (obtain ⟨_, _, _, _, _, _, rfl, _⟩ := h; rfl; done) | (obtain ⟨_, _, _, _, _, _, _, rfl, _⟩ := h; rfl; done) | (obtain ⟨_, _, _, _, _, _, _, _, rfl, _⟩ := h; rfl; done) | (obtain ⟨_, _, _, _, _, _, _, _, _, rfl, _⟩ := h; rfl; done) | (obtain ⟨_, _, _, _, _, _, _, _, _, _, rfl, _⟩ := h; rfl; done) | (rcases h with ⟨rfl | rfl, _⟩ <;> rfl) | (rcases h with ⟨rfl | rfl | rfl, _⟩ <;> rfl))
theorem len_want_letter (cl : Str → Addr) : ∀ ds cs Φ Ψ, P_want_letter cl ds cs Φ Ψ → ds.length = 1 := fun ds cs Φ Ψ h => by
  first | (obtain ⟨rfl, _⟩ := h; rfl; done) | (obtain ⟨_, rfl, _⟩ := h; rfl; done) | (obtain ⟨_, _, rfl, _⟩ := h; rfl; done) | (obtain ⟨_, _, _, rfl, _⟩ := h; rfl; done) | (obtain ⟨_, _, _, _, rfl, _⟩ := h; rfl; done) | (obtain ⟨_, _, _, _, _, rfl, _⟩ := h; rfl; done) | (obtain ⟨_, _, _, _, _, _, rfl, _⟩ := h; rfl; done) | (obtain ⟨_, _, _, _, _, _, _, rfl, _⟩ := h; rfl; done) | (obtain ⟨_, _, _, _, _, _, _, _, rfl, _⟩ := h; rfl; done) | (obtain ⟨_, _, _, _, _, _, _, _, _, rfl, _⟩ := h; rfl; done) | (obtain ⟨_, _, _, _, _, _, _, _, _, _, rfl, _⟩ := h; rfl; done) | (rcases h with h | h | h <;> first | (obtain ⟨rfl, _⟩ := h; rfl; done) | (obtain ⟨_, rfl, _⟩ := h; rfl; done) | (obtain ⟨_, _, rfl, _⟩ := h; rfl; done) | (obtain ⟨_, _, _, rfl, _⟩ := h; rfl; done) | (obtain ⟨_, _, _, _, rfl, _⟩ := h; rfl; done) | (obtain ⟨_, _, _, _, _, rfl, _⟩ := h; rfl; done) | (obtain ⟨_, _, _, _, _, _, rfl, _⟩ := h; rfl; done) | (obtain ⟨_, _, _, _, _, _, _, rfl, _⟩ := h; rfl; done) | (obtain ⟨_, _, _, _, _, _, _, _, rfl, _⟩ := h; rfl; done) | (obtain ⟨_, _, _, _, _, _, _, _, _, rfl, _⟩ := h; rfl; done) | (obtain ⟨_, _, _, _, _, _, _, _, _, _, rfl, _⟩ := h; rfl; done) | (rcases h with ⟨rfl | rfl, _⟩ <;> rfl) | (rcases h with ⟨rfl | rfl | rfl, _⟩ <;> rfl)) | (rcases h with h | h <;> first | (obtain ⟨rfl, _⟩ := h; rfl; done) | (obtain ⟨_, rfl, _⟩ := h; rfl; done) | (obtain ⟨_, _, rfl, _⟩ := h; rfl; done) | (obtain ⟨_, _, _, rfl, _⟩ := h; rfl; done) | (obtain ⟨_, _, _, _, rfl, _⟩ := h; rfl; done) | (obtain ⟨_, _, _, _, _, rfl, _⟩ := h; rfl; done) | (obtain ⟨_, _, _, _, _, _, rfl, _⟩ := h; rfl; done) | (obtain ⟨_, _, _, _, _, _, _, rfl, _⟩ := h; rfl; done) | (obtain ⟨_, _, _, _, _, _, _, _, rfl, _⟩ := h; rfl; done) | (obtain ⟨_, _, _, _, _, _, _, _, _, rfl, _⟩ := h; rfl; done) | (obtain ⟨_, _, _, _, _, _, _, _, _, _, rfl, _⟩ := h; rfl; done) | (rcases h with ⟨rfl | rfl, _⟩ <;> rfl) | (rcases h with ⟨rfl | rfl | rfl, _⟩ <;> rfl))
theorem len_want_counts (cl : Str → Addr) : ∀ ds cs Φ Ψ, P_want_counts cl ds cs Φ Ψ → ds.length = 1 := fun ds cs Φ Ψ h => by
  first | (obtain ⟨rfl, _⟩ := h; rfl; done) | (obtain ⟨_, rfl, _⟩ := h; rfl; done) | (obtain ⟨_, _, rfl, _⟩ := h; rfl; done) | (obtain ⟨_, _, _, rfl, _⟩ := h; rfl; done) | (obtain ⟨_, _, _, _, rfl, _⟩ := h; rfl; done) | (obtain ⟨_, _, _, _, _, rfl, _⟩ := h; rfl; done) | (obtain ⟨_, _, _, _, _, _, rfl, _⟩ := h; rfl; done) | (obtain ⟨_, _, _, _, _, _, _, rfl, _⟩ := h; rfl; done) | (obtain ⟨_, _, _, _, _, _, _, _, rfl, _⟩ := h; rfl; done) | (obtain ⟨_, _, _, _, _, _, _, _, _, rfl, _⟩ := h; rfl; done) | (obtain ⟨_, _, _, _, _, _, _, _, _, _, rfl, _⟩ := h; rfl; done) | (rcases h with h | h | h <;> first | (obtain ⟨rfl, _⟩ := h; rfl; done) | (obtain ⟨_, rfl, _⟩ := h; rfl; done) | (obtain ⟨_, _, rfl, _⟩ := h; rfl; done) | (obtain ⟨_, _, _, rfl, _⟩ := h; rfl; done) | (obtain ⟨_, _, _, _, rfl, _⟩ := h; rfl; done) | (obtain ⟨_, _, _, _, _, rfl, _⟩ := h; rfl; done) | (obtain ⟨_, _, _, _, _, _, rfl, _⟩ := h; rfl; done) | (obtain ⟨_, _, _, _, _, _, _, rfl, _⟩ := h; rfl; done) | (obtain ⟨_, _, _, _, _, _, _, _, rfl, _⟩ := h; rfl; done) | (obtain ⟨_, _, _, _, _, _, _, _, _, rfl, _⟩ := h; rfl; done) | (obtain ⟨_, _, _, _, _, _, _, _, _, _, rfl, _⟩ := h; rfl; done) | (rcases h with ⟨rfl | rfl, _⟩ <;> rfl) | (rcases h with ⟨rfl | rfl | rfl, _⟩ <;> rfl)) | (rcases h with h | h <;> first | (obtain ⟨rfl, _⟩ := h; rfl; done) | (obtain ⟨_, rfl, _⟩ := h; rfl; done) | (obtain ⟨_, _, rfl, _⟩ := h; rfl; done) | (obtain ⟨_, _, _, rfl, _⟩ := h; rfl; done) | (obtain ⟨_, _, _, _, rfl, _⟩ := h; rfl; done) | (obtain ⟨_, _, _, _, _, rfl, _⟩ := h; rfl; done) | (obtain ⟨_, _, _, _, _, _, rfl, _⟩ := h; rfl; done) | (obtain ⟨_, _, _, _, _, _, _, rfl, _⟩ := h; rfl; done) | (obtain ⟨_, _, _, _, _, _, _, _, rfl, _⟩ := h; rfl; done) | (obtain ⟨_, _, _, _, _, _, _, _, _, rfl, _⟩ := h; rfl; done) | (obtain ⟨_, _, _, _, _, _, _, _, _, _, rfl, _⟩ := h; rfl; done) | (rcases h with ⟨rfl | rfl, _⟩ <;> rfl) | (rcases h with ⟨rfl | rfl | rfl, _⟩ <;> rfl))
theorem len_is_joint (cl : Str → Addr) : ∀ ds cs Φ Ψ, P_is_joint cl ds cs Φ Ψ → ds.length = 1 := fun ds cs Φ Ψ h => by
  first | (obtain ⟨rfl, _⟩ := h; rfl; done) | (obtain ⟨_, rfl, _⟩ := h; rfl; done) | (obtain ⟨_, _, rfl, _⟩ := h; rfl; done) | (obtain ⟨_, _, _, rfl, _⟩ := h; rfl; done) | (obtain ⟨_, _, _, _, rfl, _⟩ := h; rfl; done) | (obtain ⟨_, _, _, _, _, rfl, _⟩ := h; rfl; done) | (obtain ⟨_, _, _, _, _, _, rfl, _⟩ := h; rfl; done) | (obtain ⟨_, _, _, _, _, _, _, rfl, _⟩ := h; rfl; done) | (obtain ⟨_, _, _, _, _, _, _, _, rfl, _⟩ := h; rfl; done) | (obtain ⟨_, _, _, _, _, _, _, _, _, rfl, _⟩ := h; rfl; done) | (obtain ⟨_, _, _, _, _, _, _, _, _, _, rfl, _⟩ := h; rfl; done) | (rcases h with h | h | h <;> first | (obtain ⟨rfl, _⟩ := h; rfl; done) | (obtain ⟨_, rfl, _⟩ := h; rfl; done) | (obtain ⟨_, _, rfl, _⟩ := h; rfl; done) | (obtain ⟨_, _, _, rfl, _⟩ := h; rfl; done) | (obtain ⟨_, _, _, _, rfl, _⟩ := h; rfl; done) | (obtain ⟨_, _, _, _, _, rfl, _⟩ := h; rfl; done) | (obtain ⟨_, _, _, _, _, _, rfl, _⟩ := h; rfl; done) | (obtain ⟨_, _, _, _, _, _, _, rfl, _⟩ := h; rfl; done) | (obtain ⟨_, _, _, _, _, _, _, _, rfl, _⟩ := h; rfl; done) | (obtain ⟨_, _, _, _, _, _, _, _, _, rfl, _⟩ := h; rfl; done) | (obtain ⟨_, _, _, _, _, _, _, _, _, _, rfl, _⟩ := h; rfl; done) | (rcases h with ⟨rfl | rfl, _⟩ <;> rfl) | (rcases h with ⟨rfl | rfl | rfl, _⟩ <;> rfl)) | (rcases h with h | h <;> first | (obtain ⟨rfl, _⟩ := h; rfl; done) | (obtain ⟨_, rfl, _⟩ := h; rfl; done) | (obtain ⟨_, _, rfl, _⟩ := h; rfl; done) | (obtain ⟨_, _, _, rfl, _⟩ := h; rfl; done) | (obtain ⟨_, _, _, _, rfl, _⟩ := h; rfl; done) | (obtain ⟨_, _, _, _, _, rfl, _⟩ := h; rfl; done) | (obtain ⟨_, _, _, _, _, _, rfl, _⟩ := h; rfl; done) | (obtain ⟨_, _, _, _, _, _, _, rfl, _⟩ := h; rfl; done) | (obtain ⟨_, _, _, _, _, _, _, _, rfl, _⟩ := h; rfl; done) | (obtain ⟨_, _, _, _, _, _, _, _, _, rfl, _⟩ := h; rfl; done) | (obtain ⟨_, _, _, _, _, _, _, _, _, _, rfl, _⟩ := h; rfl; done) | (rcases h with ⟨rfl | rfl, _⟩ <;> rfl) | (rcases h with ⟨rfl | rfl | rfl, _⟩ <;> rfl))
theorem len_leaves_fit (cl : Str → Addr) : ∀ ds cs Φ Ψ, P_leaves_fit cl ds cs Φ Ψ → ds.length = 1 := fun ds cs Φ Ψ h => by
  first | (obtain ⟨rfl, _⟩ := h; rfl; done) | (obtain ⟨_, rfl, _⟩ := h; rfl; done) | (obtain ⟨_, _, rfl, _⟩ := h; rfl; done) | (obtain ⟨_, _, _, rfl, _⟩ := h; rfl; done) | (obtain ⟨_, _, _, _, rfl, _⟩ := h; rfl; done) | (obtain ⟨_, _, _, _, _, rfl, _⟩ := h; rfl; done) | (obtain ⟨_, _, _, _, _, _, rfl, _⟩ := h; rfl; done) | (obtain ⟨_, _, _, _, _, _, _, rfl, _⟩ := h; rfl; done) | (obtain ⟨_, _, _, _, _, _, _, _, rfl, _⟩ := h; rfl; done) | (obtain ⟨_, _, _, _, _, _, _, _, _, rfl, _⟩ := h; rfl; done) | (obtain ⟨_, _, _, _, _, _, _, _, _, _, rfl, _⟩ := h; rfl; done) | (rcases h with h | h | h <;> first | (obtain ⟨rfl, _⟩ := h; rfl; done) | (obtain ⟨_, rfl, _⟩ := h; rfl; done) | (obtain ⟨_, _, rfl, _⟩ := h; rfl; done) | (obtain ⟨_, _, _, rfl, _⟩ := h; rfl; done) | (obtain ⟨_, _, _, _, rfl, _⟩ := h; rfl; done) | (obtain ⟨_, _, _, _, _, rfl, _⟩ := h; rfl; done) | (obtain ⟨_, _, _, _, _, _, rfl, _⟩ := h; rfl; done) | (obtain ⟨_, _, _, _, _, _, _, rfl, _⟩ := h; rfl; done) | (obtain ⟨_, _, _, _, _, _, _, _, rfl, _⟩ := h; rfl; done) | (obtain ⟨_, _, _, _, _, _, _, _, _, rfl, _⟩ := h; rfl; done) | (obtain ⟨_, _, _, _, _, _, _, _, _, _, rfl, _⟩ := h; rfl; done) | (rcases h with ⟨rfl | rfl, _⟩ <;> rfl) | (rcases h with ⟨rfl | rfl | rfl, _⟩ <;> rfl)) | (rcases h with h | h <;> first | (obtain ⟨rfl, _⟩ := h; rfl; done) | (obtain ⟨_, rfl, _⟩ := h; rfl; done) | (obtain ⟨_, _, rfl, _⟩ := h; rfl; done) | (obtain ⟨_, _, _, rfl, _⟩ := h; rfl; done) | (obtain ⟨_, _, _, _, rfl, _⟩ := h; rfl; done) | (obtain ⟨_, _, _, _, _, rfl, _⟩ := h; rfl; done) | (obtain ⟨_, _, _, _, _, _, rfl, _⟩ := h; rfl; done) | (obtain ⟨_, _, _, _, _, _, _, rfl, _⟩ := h; rfl; done) | (obtain ⟨_, _, _, _, _, _, _, _, rfl, _⟩ := h; rfl; done) | (obtain ⟨_, _, _, _, _, _, _, _, _, rfl, _⟩ := h; rfl; done) | (obtain ⟨_, _, _, _, _, _, _, _, _, _, rfl, _⟩ := h; rfl; done) | (rcases h with ⟨rfl | rfl, _⟩ <;> rfl) | (rcases h with ⟨rfl | rfl | rfl, _⟩ <;> rfl))
theorem len_order_fits (cl : Str → Addr) : ∀ ds cs Φ Ψ, P_order_fits cl ds cs Φ Ψ → ds.length = 1 := fun ds cs Φ Ψ h => by
  first | (obtain ⟨rfl, _⟩ := h; rfl; done) | (obtain ⟨_, rfl, _⟩ := h; rfl; done) | (obtain ⟨_, _, rfl, _⟩ := h; rfl; done) | (obtain ⟨_, _, _, rfl, _⟩ := h; rfl; done) | (obtain ⟨_, _, _, _, rfl, _⟩ := h; rfl; done) | (obtain ⟨_, _, _, _, _, rfl, _⟩ := h; rfl; done) | (obtain ⟨_, _, _, _, _, _, rfl, _⟩ := h; rfl; done) | (obtain ⟨_, _, _, _, _, _, _, rfl, _⟩ := h; rfl; done) | (obtain ⟨_, _, _, _, _, _, _, _, rfl, _⟩ := h; rfl; done) | (obtain ⟨_, _, _, _, _, _, _, _, _, rfl, _⟩ := h; rfl; done) | (obtain ⟨_, _, _, _, _, _, _, _, _, _, rfl, _⟩ := h; rfl; done) | (rcases h with h | h | h <;> first | (obtain ⟨rfl, _⟩ := h; rfl; done) | (obtain ⟨_, rfl, _⟩ := h; rfl; done) | (obtain ⟨_, _, rfl, _⟩ := h; rfl; done) | (obtain ⟨_, _, _, rfl, _⟩ := h; rfl; done) | (obtain ⟨_, _, _, _, rfl, _⟩ := h; rfl; done) | (obtain ⟨_, _, _, _, _, rfl, _⟩ := h; rfl; done) | (obtain ⟨_, _, _, _, _, _, rfl, _⟩ := h; rfl; done) | (obtain ⟨_, _, _, _, _, _, _, rfl, _⟩ := h; rfl; done) | (obtain ⟨_, _, _, _, _, _, _, _, rfl, _⟩ := h; rfl; done) | (obtain ⟨_, _, _, _, _, _, _, _, _, rfl, _⟩ := h; rfl; done) | (obtain ⟨_, _, _, _, _, _, _, _, _, _, rfl, _⟩ := h; rfl; done) | (rcases h with ⟨rfl | rfl, _⟩ <;> rfl) | (rcases h with ⟨rfl | rfl | rfl, _⟩ <;> rfl)) | (rcases h with h | h <;> first | (obtain ⟨rfl, _⟩ := h; rfl; done) | (obtain ⟨_, rfl, _⟩ := h; rfl; done) | (obtain ⟨_, _, rfl, _⟩ := h; rfl; done) | (obtain ⟨_, _, _, rfl, _⟩ := h; rfl; done) | (obtain ⟨_, _, _, _, rfl, _⟩ := h; rfl; done) | (obtain ⟨_, _, _, _, _, rfl, _⟩ := h; rfl; done) | (obtain ⟨_, _, _, _, _, _, rfl, _⟩ := h; rfl; done) | (obtain ⟨_, _, _, _, _, _, _, rfl, _⟩ := h; rfl; done) | (obtain ⟨_, _, _, _, _, _, _, _, rfl, _⟩ := h; rfl; done) | (obtain ⟨_, _, _, _, _, _, _, _, _, rfl, _⟩ := h; rfl; done) | (obtain ⟨_, _, _, _, _, _, _, _, _, _, rfl, _⟩ := h; rfl; done) | (rcases h with ⟨rfl | rfl, _⟩ <;> rfl) | (rcases h with ⟨rfl | rfl | rfl, _⟩ <;> rfl))
theorem len_ups_fit (cl : Str → Addr) : ∀ ds cs Φ Ψ, P_ups_fit cl ds cs Φ Ψ → ds.length = 1 := fun ds cs Φ Ψ h => by
  first | (obtain ⟨rfl, _⟩ := h; rfl; done) | (obtain ⟨_, rfl, _⟩ := h; rfl; done) | (obtain ⟨_, _, rfl, _⟩ := h; rfl; done) | (obtain ⟨_, _, _, rfl, _⟩ := h; rfl; done) | (obtain ⟨_, _, _, _, rfl, _⟩ := h; rfl; done) | (obtain ⟨_, _, _, _, _, rfl, _⟩ := h; rfl; done) | (obtain ⟨_, _, _, _, _, _, rfl, _⟩ := h; rfl; done) | (obtain ⟨_, _, _, _, _, _, _, rfl, _⟩ := h; rfl; done) | (obtain ⟨_, _, _, _, _, _, _, _, rfl, _⟩ := h; rfl; done) | (obtain ⟨_, _, _, _, _, _, _, _, _, rfl, _⟩ := h; rfl; done) | (obtain ⟨_, _, _, _, _, _, _, _, _, _, rfl, _⟩ := h; rfl; done) | (rcases h with h | h | h <;> first | (obtain ⟨rfl, _⟩ := h; rfl; done) | (obtain ⟨_, rfl, _⟩ := h; rfl; done) | (obtain ⟨_, _, rfl, _⟩ := h; rfl; done) | (obtain ⟨_, _, _, rfl, _⟩ := h; rfl; done) | (obtain ⟨_, _, _, _, rfl, _⟩ := h; rfl; done) | (obtain ⟨_, _, _, _, _, rfl, _⟩ := h; rfl; done) | (obtain ⟨_, _, _, _, _, _, rfl, _⟩ := h; rfl; done) | (obtain ⟨_, _, _, _, _, _, _, rfl, _⟩ := h; rfl; done) | (obtain ⟨_, _, _, _, _, _, _, _, rfl, _⟩ := h; rfl; done) | (obtain ⟨_, _, _, _, _, _, _, _, _, rfl, _⟩ := h; rfl; done) | (obtain ⟨_, _, _, _, _, _, _, _, _, _, rfl, _⟩ := h; rfl; done) | (rcases h with ⟨rfl | rfl, _⟩ <;> rfl) | (rcases h with ⟨rfl | rfl | rfl, _⟩ <;> rfl)) | (rcases h with h | h <;> first | (obtain ⟨rfl, _⟩ := h; rfl; done) | (obtain ⟨_, rfl, _⟩ := h; rfl; done) | (obtain ⟨_, _, rfl, _⟩ := h; rfl; done) | (obtain ⟨_, _, _, rfl, _⟩ := h; rfl; done) | (obtain ⟨_, _, _, _, rfl, _⟩ := h; rfl; done) | (obtain ⟨_, _, _, _, _, rfl, _⟩ := h; rfl; done) | (obtain ⟨_, _, _, _, _, _, rfl, _⟩ := h; rfl; done) | (obtain ⟨_, _, _, _, _, _, _, rfl, _⟩ := h; rfl; done) | (obtain ⟨_, _, _, _, _, _, _, _, rfl, _⟩ := h; rfl; done) | (obtain ⟨_, _, _, _, _, _, _, _, _, rfl, _⟩ := h; rfl; done) | (obtain ⟨_, _, _, _, _, _, _, _, _, _, rfl, _⟩ := h; rfl; done) | (rcases h with ⟨rfl | rfl, _⟩ <;> rfl) | (rcases h with ⟨rfl | rfl | rfl, _⟩ <;> rfl))
theorem len_row_right (cl : Str → Addr) : ∀ ds cs Φ Ψ, P_row_right cl ds cs Φ Ψ → ds.length = 1 := fun ds cs Φ Ψ h => by
  first | (obtain ⟨rfl, _⟩ := h; rfl; done) | (obtain ⟨_, rfl, _⟩ := h; rfl; done) | (obtain ⟨_, _, rfl, _⟩ := h; rfl; done) | (obtain ⟨_, _, _, rfl, _⟩ := h; rfl; done) | (obtain ⟨_, _, _, _, rfl, _⟩ := h; rfl; done) | (obtain ⟨_, _, _, _, _, rfl, _⟩ := h; rfl; done) | (obtain ⟨_, _, _, _, _, _, rfl, _⟩ := h; rfl; done) | (obtain ⟨_, _, _, _, _, _, _, rfl, _⟩ := h; rfl; done) | (obtain ⟨_, _, _, _, _, _, _, _, rfl, _⟩ := h; rfl; done) | (obtain ⟨_, _, _, _, _, _, _, _, _, rfl, _⟩ := h; rfl; done) | (obtain ⟨_, _, _, _, _, _, _, _, _, _, rfl, _⟩ := h; rfl; done) | (rcases h with h | h | h <;> first | (obtain ⟨rfl, _⟩ := h; rfl; done) | (obtain ⟨_, rfl, _⟩ := h; rfl; done) | (obtain ⟨_, _, rfl, _⟩ := h; rfl; done) | (obtain ⟨_, _, _, rfl, _⟩ := h; rfl; done) | (obtain ⟨_, _, _, _, rfl, _⟩ := h; rfl; done) | (obtain ⟨_, _, _, _, _, rfl, _⟩ := h; rfl; done) | (obtain ⟨_, _, _, _, _, _, rfl, _⟩ := h; rfl; done) | (obtain ⟨_, _, _, _, _, _, _, rfl, _⟩ := h; rfl; done) | (obtain ⟨_, _, _, _, _, _, _, _, rfl, _⟩ := h; rfl; done) | (obtain ⟨_, _, _, _, _, _, _, _, _, rfl, _⟩ := h; rfl; done) | (obtain ⟨_, _, _, _, _, _, _, _, _, _, rfl, _⟩ := h; rfl; done) | (rcases h with ⟨rfl | rfl, _⟩ <;> rfl) | (rcases h with ⟨rfl | rfl | rfl, _⟩ <;> rfl)) | (rcases h with h | h <;> first | (obtain ⟨rfl, _⟩ := h; rfl; done) | (obtain ⟨_, rfl, _⟩ := h; rfl; done) | (obtain ⟨_, _, rfl, _⟩ := h; rfl; done) | (obtain ⟨_, _, _, rfl, _⟩ := h; rfl; done) | (obtain ⟨_, _, _, _, rfl, _⟩ := h; rfl; done) | (obtain ⟨_, _, _, _, _, rfl, _⟩ := h; rfl; done) | (obtain ⟨_, _, _, _, _, _, rfl, _⟩ := h; rfl; done) | (obtain ⟨_, _, _, _, _, _, _, rfl, _⟩ := h; rfl; done) | (obtain ⟨_, _, _, _, _, _, _, _, rfl, _⟩ := h; rfl; done) | (obtain ⟨_, _, _, _, _, _, _, _, _, rfl, _⟩ := h; rfl; done) | (obtain ⟨_, _, _, _, _, _, _, _, _, _, rfl, _⟩ := h; rfl; done) | (rcases h with ⟨rfl | rfl, _⟩ <;> rfl) | (rcases h with ⟨rfl | rfl | rfl, _⟩ <;> rfl))
theorem len_want_row (cl : Str → Addr) : ∀ ds cs Φ Ψ, P_want_row cl ds cs Φ Ψ → ds.length = 1 := fun ds cs Φ Ψ h => by
  first | (obtain ⟨rfl, _⟩ := h; rfl; done) | (obtain ⟨_, rfl, _⟩ := h; rfl; done) | (obtain ⟨_, _, rfl, _⟩ := h; rfl; done) | (obtain ⟨_, _, _, rfl, _⟩ := h; rfl; done) | (obtain ⟨_, _, _, _, rfl, _⟩ := h; rfl; done) | (obtain ⟨_, _, _, _, _, rfl, _⟩ := h; rfl; done) | (obtain ⟨_, _, _, _, _, _, rfl, _⟩ := h; rfl; done) | (obtain ⟨_, _, _, _, _, _, _, rfl, _⟩ := h; rfl; done) | (obtain ⟨_, _, _, _, _, _, _, _, rfl, _⟩ := h; rfl; done) | (obtain ⟨_, _, _, _, _, _, _, _, _, rfl, _⟩ := h; rfl; done) | (obtain ⟨_, _, _, _, _, _, _, _, _, _, rfl, _⟩ := h; rfl; done) | (rcases h with h | h | h <;> first | (obtain ⟨rfl, _⟩ := h; rfl; done) | (obtain ⟨_, rfl, _⟩ := h; rfl; done) | (obtain ⟨_, _, rfl, _⟩ := h; rfl; done) | (obtain ⟨_, _, _, rfl, _⟩ := h; rfl; done) | (obtain ⟨_, _, _, _, rfl, _⟩ := h; rfl; done) | (obtain ⟨_, _, _, _, _, rfl, _⟩ := h; rfl; done) | (obtain ⟨_, _, _, _, _, _, rfl, _⟩ := h; rfl; done) | (obtain ⟨_, _, _, _, _, _, _, rfl, _⟩ := h; rfl; done) | (obtain ⟨_, _, _, _, _, _, _, _, rfl, _⟩ := h; rfl; done) | (obtain ⟨_, _, _, _, _, _, _, _, _, rfl, _⟩ := h; rfl; done) | (obtain ⟨_, _, _, _, _, _, _, _, _, _, rfl, _⟩ := h; rfl; done) | (rcases h with ⟨rfl | rfl, _⟩ <;> rfl) | (rcases h with ⟨rfl | rfl | rfl, _⟩ <;> rfl)) | (rcases h with h | h <;> first | (obtain ⟨rfl, _⟩ := h; rfl; done) | (obtain ⟨_, rfl, _⟩ := h; rfl; done) | (obtain ⟨_, _, rfl, _⟩ := h; rfl; done) | (obtain ⟨_, _, _, rfl, _⟩ := h; rfl; done) | (obtain ⟨_, _, _, _, rfl, _⟩ := h; rfl; done) | (obtain ⟨_, _, _, _, _, rfl, _⟩ := h; rfl; done) | (obtain ⟨_, _, _, _, _, _, rfl, _⟩ := h; rfl; done) | (obtain ⟨_, _, _, _, _, _, _, rfl, _⟩ := h; rfl; done) | (obtain ⟨_, _, _, _, _, _, _, _, rfl, _⟩ := h; rfl; done) | (obtain ⟨_, _, _, _, _, _, _, _, _, rfl, _⟩ := h; rfl; done) | (obtain ⟨_, _, _, _, _, _, _, _, _, _, rfl, _⟩ := h; rfl; done) | (rcases h with ⟨rfl | rfl, _⟩ <;> rfl) | (rcases h with ⟨rfl | rfl | rfl, _⟩ <;> rfl))
theorem len_Making___init__ (cl : Str → Addr) : ∀ ds cs Φ Ψ, P_Making___init__ cl ds cs Φ Ψ → ds.length = 2 := fun ds cs Φ Ψ h => by
  first | (obtain ⟨rfl, _⟩ := h; rfl; done) | (obtain ⟨_, rfl, _⟩ := h; rfl; done) | (obtain ⟨_, _, rfl, _⟩ := h; rfl; done) | (obtain ⟨_, _, _, rfl, _⟩ := h; rfl; done) | (obtain ⟨_, _, _, _, rfl, _⟩ := h; rfl; done) | (obtain ⟨_, _, _, _, _, rfl, _⟩ := h; rfl; done) | (obtain ⟨_, _, _, _, _, _, rfl, _⟩ := h; rfl; done) | (obtain ⟨_, _, _, _, _, _, _, rfl, _⟩ := h; rfl; done) | (obtain ⟨_, _, _, _, _, _, _, _, rfl, _⟩ := h; rfl; done) | (obtain ⟨_, _, _, _, _, _, _, _, _, rfl, _⟩ := h; rfl; done) | (obtain ⟨_, _, _, _, _, _, _, _, _, _, rfl, _⟩ := h; rfl; done) | (rcases h with h | h | h <;> first | (obtain ⟨rfl, _⟩ := h; rfl; done) | (obtain ⟨_, rfl, _⟩ := h; rfl; done) | (obtain ⟨_, _, rfl, _⟩ := h; rfl; done) | (obtain ⟨_, _, _, rfl, _⟩ := h; rfl; done) | (obtain ⟨_, _, _, _, rfl, _⟩ := h; rfl; done) | (obtain ⟨_, _, _, _, _, rfl, _⟩ := h; rfl; done) | (obtain ⟨_, _, _, _, _, _, rfl, _⟩ := h; rfl; done) | (obtain ⟨_, _, _, _, _, _, _, rfl, _⟩ := h; rfl; done) | (obtain ⟨_, _, _, _, _, _, _, _, rfl, _⟩ := h; rfl; done) | (obtain ⟨_, _, _, _, _, _, _, _, _, rfl, _⟩ := h; rfl; done) | (obtain ⟨_, _, _, _, _, _, _, _, _, _, rfl, _⟩ := h; rfl; done) | (rcases h with ⟨rfl | rfl, _⟩ <;> rfl) | (rcases h with ⟨rfl | rfl | rfl, _⟩ <;> rfl)) | (rcases h with h | h <;> first | (obtain ⟨rfl, _⟩ := h; rfl; done) | (obtain ⟨_, rfl, _⟩ := h; rfl; done) | (obtain ⟨_, _, rfl, _⟩ := h; rfl; done) | (obtain ⟨_, _, _, rfl, _⟩ := h; rfl; done) | (obtain ⟨_, _, _, _, rfl, _⟩ := h; rfl; done) | (obtain ⟨_, _, _, _, _, rfl, _⟩ := h; rfl; done) | (obtain ⟨_, _, _, _, _, _, rfl, _⟩ := h; rfl; done) | (obtain ⟨_, _, _, _, _, _, _, rfl, _⟩ := h; rfl; done) | (obtain ⟨_, _, _, _, _, _, _, _, rfl, _⟩ := h; rfl; done) | (obtain ⟨_, _, _, _, _, _, _, _, _, rfl, _⟩ := h; rfl; done) | (obtain ⟨_, _, _, _, _, _, _, _, _, _, rfl, _⟩ := h; rfl; done) | (rcases h with ⟨rfl | rfl, _⟩ <;> rfl) | (rcases h with ⟨rfl | rfl | rfl, _⟩ <;> rfl))
theorem len_Making_many (cl : Str → Addr) : ∀ ds cs Φ Ψ, P_Making_many cl ds cs Φ Ψ → ds.length = 1 := fun ds cs Φ Ψ h => by
  first | (obtain ⟨rfl, _⟩ := h; rfl; done) | (obtain ⟨_, rfl, _⟩ := h; rfl; done) | (obtain ⟨_, _, rfl, _⟩ := h; rfl; done) | (obtain ⟨_, _, _, rfl, _⟩ := h; rfl; done) | (obtain ⟨_, _, _, _, rfl, _⟩ := h; rfl; done) | (obtain ⟨_, _, _, _, _, rfl, _⟩ := h; rfl; done) | (obtain ⟨_, _, _, _, _, _, rfl, _⟩ := h; rfl; done) | (obtain ⟨_, _, _, _, _, _, _, rfl, _⟩ := h; rfl; done) | (obtain ⟨_, _, _, _, _, _, _, _, rfl, _⟩ := h; rfl; done) | (obtain ⟨_, _, _, _, _, _, _, _, _, rfl, _⟩ := h; rfl; done) | (obtain ⟨_, _, _, _, _, _, _, _, _, _, rfl, _⟩ := h; rfl; done) | (rcases h with h | h | h <;> first | (obtain ⟨rfl, _⟩ := h; rfl; done) | (obtain ⟨_, rfl, _⟩ := h; rfl; done) | (obtain ⟨_, _, rfl, _⟩ := h; rfl; done) | (obtain ⟨_, _, _, rfl, _⟩ := h; rfl; done) | (obtain ⟨_, _, _, _, rfl, _⟩ := h; rfl; done) | (obtain ⟨_, _, _, _, _, rfl, _⟩ := h; rfl; done) | (obtain ⟨_, _, _, _, _, _, rfl, _⟩ := h; rfl; done) | (obtain ⟨_, _, _, _, _, _, _, rfl, _⟩ := h; rfl; done) | (obtain ⟨_, _, _, _, _, _, _, _, rfl, _⟩ := h; rfl; done) | (obtain ⟨_, _, _, _, _, _, _, _, _, rfl, _⟩ := h; rfl; done) | (obtain ⟨_, _, _, _, _, _, _, _, _, _, rfl, _⟩ := h; rfl; done) | (rcases h with ⟨rfl | rfl, _⟩ <;> rfl) | (rcases h with ⟨rfl | rfl | rfl, _⟩ <;> rfl)) | (rcases h with h | h <;> first | (obtain ⟨rfl, _⟩ := h; rfl; done) | (obtain ⟨_, rfl, _⟩ := h; rfl; done) | (obtain ⟨_, _, rfl, _⟩ := h; rfl; done) | (obtain ⟨_, _, _, rfl, _⟩ := h; rfl; done) | (obtain ⟨_, _, _, _, rfl, _⟩ := h; rfl; done) | (obtain ⟨_, _, _, _, _, rfl, _⟩ := h; rfl; done) | (obtain ⟨_, _, _, _, _, _, rfl, _⟩ := h; rfl; done) | (obtain ⟨_, _, _, _, _, _, _, rfl, _⟩ := h; rfl; done) | (obtain ⟨_, _, _, _, _, _, _, _, rfl, _⟩ := h; rfl; done) | (obtain ⟨_, _, _, _, _, _, _, _, _, rfl, _⟩ := h; rfl; done) | (obtain ⟨_, _, _, _, _, _, _, _, _, _, rfl, _⟩ := h; rfl; done) | (rcases h with ⟨rfl | rfl, _⟩ <;> rfl) | (rcases h with ⟨rfl | rfl | rfl, _⟩ <;> rfl))
theorem len_Making_place_least (cl : Str → Addr) : ∀ ds cs Φ Ψ, P_Making_place_least cl ds cs Φ Ψ → ds.length = 1 := fun ds cs Φ Ψ h => by
  first | (obtain ⟨rfl, _⟩ := h; rfl; done) | (obtain ⟨_, rfl, _⟩ := h; rfl; done) | (obtain ⟨_, _, rfl, _⟩ := h; rfl; done) | (obtain ⟨_, _, _, rfl, _⟩ := h; rfl; done) | (obtain ⟨_, _, _, _, rfl, _⟩ := h; rfl; done) | (obtain ⟨_, _, _, _, _, rfl, _⟩ := h; rfl; done) | (obtain ⟨_, _, _, _, _, _, rfl, _⟩ := h; rfl; done) | (obtain ⟨_, _, _, _, _, _, _, rfl, _⟩ := h; rfl; done) | (obtain ⟨_, _, _, _, _, _, _, _, rfl, _⟩ := h; rfl; done) | (obtain ⟨_, _, _, _, _, _, _, _, _, rfl, _⟩ := h; rfl; done) | (obtain ⟨_, _, _, _, _, _, _, _, _, _, rfl, _⟩ := h; rfl; done) | (rcases h with h | h | h <;> first | (obtain ⟨rfl, _⟩ := h; rfl; done) | (obtain ⟨_, rfl, _⟩ := h; rfl; done) | (obtain ⟨_, _, rfl, _⟩ := h; rfl; done) | (obtain ⟨_, _, _, rfl, _⟩ := h; rfl; done) | (obtain ⟨_, _, _, _, rfl, _⟩ := h; rfl; done) | (obtain ⟨_, _, _, _, _, rfl, _⟩ := h; rfl; done) | (obtain ⟨_, _, _, _, _, _, rfl, _⟩ := h; rfl; done) | (obtain ⟨_, _, _, _, _, _, _, rfl, _⟩ := h; rfl; done) | (obtain ⟨_, _, _, _, _, _, _, _, rfl, _⟩ := h; rfl; done) | (obtain ⟨_, _, _, _, _, _, _, _, _, rfl, _⟩ := h; rfl; done) | (obtain ⟨_, _, _, _, _, _, _, _, _, _, rfl, _⟩ := h; rfl; done) | (rcases h with ⟨rfl | rfl, _⟩ <;> rfl) | (rcases h with ⟨rfl | rfl | rfl, _⟩ <;> rfl)) | (rcases h with h | h <;> first | (obtain ⟨rfl, _⟩ := h; rfl; done) | (obtain ⟨_, rfl, _⟩ := h; rfl; done) | (obtain ⟨_, _, rfl, _⟩ := h; rfl; done) | (obtain ⟨_, _, _, rfl, _⟩ := h; rfl; done) | (obtain ⟨_, _, _, _, rfl, _⟩ := h; rfl; done) | (obtain ⟨_, _, _, _, _, rfl, _⟩ := h; rfl; done) | (obtain ⟨_, _, _, _, _, _, rfl, _⟩ := h; rfl; done) | (obtain ⟨_, _, _, _, _, _, _, rfl, _⟩ := h; rfl; done) | (obtain ⟨_, _, _, _, _, _, _, _, rfl, _⟩ := h; rfl; done) | (obtain ⟨_, _, _, _, _, _, _, _, _, rfl, _⟩ := h; rfl; done) | (obtain ⟨_, _, _, _, _, _, _, _, _, _, rfl, _⟩ := h; rfl; done) | (rcases h with ⟨rfl | rfl, _⟩ <;> rfl) | (rcases h with ⟨rfl | rfl | rfl, _⟩ <;> rfl))
theorem len_Making_join (cl : Str → Addr) : ∀ ds cs Φ Ψ, P_Making_join cl ds cs Φ Ψ → ds.length = 1 := fun ds cs Φ Ψ h => by
  first | (obtain ⟨rfl, _⟩ := h; rfl; done) | (obtain ⟨_, rfl, _⟩ := h; rfl; done) | (obtain ⟨_, _, rfl, _⟩ := h; rfl; done) | (obtain ⟨_, _, _, rfl, _⟩ := h; rfl; done) | (obtain ⟨_, _, _, _, rfl, _⟩ := h; rfl; done) | (obtain ⟨_, _, _, _, _, rfl, _⟩ := h; rfl; done) | (obtain ⟨_, _, _, _, _, _, rfl, _⟩ := h; rfl; done) | (obtain ⟨_, _, _, _, _, _, _, rfl, _⟩ := h; rfl; done) | (obtain ⟨_, _, _, _, _, _, _, _, rfl, _⟩ := h; rfl; done) | (obtain ⟨_, _, _, _, _, _, _, _, _, rfl, _⟩ := h; rfl; done) | (obtain ⟨_, _, _, _, _, _, _, _, _, _, rfl, _⟩ := h; rfl; done) | (rcases h with h | h | h <;> first | (obtain ⟨rfl, _⟩ := h; rfl; done) | (obtain ⟨_, rfl, _⟩ := h; rfl; done) | (obtain ⟨_, _, rfl, _⟩ := h; rfl; done) | (obtain ⟨_, _, _, rfl, _⟩ := h; rfl; done) | (obtain ⟨_, _, _, _, rfl, _⟩ := h; rfl; done) | (obtain ⟨_, _, _, _, _, rfl, _⟩ := h; rfl; done) | (obtain ⟨_, _, _, _, _, _, rfl, _⟩ := h; rfl; done) | (obtain ⟨_, _, _, _, _, _, _, rfl, _⟩ := h; rfl; done) | (obtain ⟨_, _, _, _, _, _, _, _, rfl, _⟩ := h; rfl; done) | (obtain ⟨_, _, _, _, _, _, _, _, _, rfl, _⟩ := h; rfl; done) | (obtain ⟨_, _, _, _, _, _, _, _, _, _, rfl, _⟩ := h; rfl; done) | (rcases h with ⟨rfl | rfl, _⟩ <;> rfl) | (rcases h with ⟨rfl | rfl | rfl, _⟩ <;> rfl)) | (rcases h with h | h <;> first | (obtain ⟨rfl, _⟩ := h; rfl; done) | (obtain ⟨_, rfl, _⟩ := h; rfl; done) | (obtain ⟨_, _, rfl, _⟩ := h; rfl; done) | (obtain ⟨_, _, _, rfl, _⟩ := h; rfl; done) | (obtain ⟨_, _, _, _, rfl, _⟩ := h; rfl; done) | (obtain ⟨_, _, _, _, _, rfl, _⟩ := h; rfl; done) | (obtain ⟨_, _, _, _, _, _, rfl, _⟩ := h; rfl; done) | (obtain ⟨_, _, _, _, _, _, _, rfl, _⟩ := h; rfl; done) | (obtain ⟨_, _, _, _, _, _, _, _, rfl, _⟩ := h; rfl; done) | (obtain ⟨_, _, _, _, _, _, _, _, _, rfl, _⟩ := h; rfl; done) | (obtain ⟨_, _, _, _, _, _, _, _, _, _, rfl, _⟩ := h; rfl; done) | (rcases h with ⟨rfl | rfl, _⟩ <;> rfl) | (rcases h with ⟨rfl | rfl | rfl, _⟩ <;> rfl))
theorem len_made_row (cl : Str → Addr) : ∀ ds cs Φ Ψ, P_made_row cl ds cs Φ Ψ → ds.length = 1 := fun ds cs Φ Ψ h => by
  first | (obtain ⟨rfl, _⟩ := h; rfl; done) | (obtain ⟨_, rfl, _⟩ := h; rfl; done) | (obtain ⟨_, _, rfl, _⟩ := h; rfl; done) | (obtain ⟨_, _, _, rfl, _⟩ := h; rfl; done) | (obtain ⟨_, _, _, _, rfl, _⟩ := h; rfl; done) | (obtain ⟨_, _, _, _, _, rfl, _⟩ := h; rfl; done) | (obtain ⟨_, _, _, _, _, _, rfl, _⟩ := h; rfl; done) | (obtain ⟨_, _, _, _, _, _, _, rfl, _⟩ := h; rfl; done) | (obtain ⟨_, _, _, _, _, _, _, _, rfl, _⟩ := h; rfl; done) | (obtain ⟨_, _, _, _, _, _, _, _, _, rfl, _⟩ := h; rfl; done) | (obtain ⟨_, _, _, _, _, _, _, _, _, _, rfl, _⟩ := h; rfl; done) | (rcases h with h | h | h <;> first | (obtain ⟨rfl, _⟩ := h; rfl; done) | (obtain ⟨_, rfl, _⟩ := h; rfl; done) | (obtain ⟨_, _, rfl, _⟩ := h; rfl; done) | (obtain ⟨_, _, _, rfl, _⟩ := h; rfl; done) | (obtain ⟨_, _, _, _, rfl, _⟩ := h; rfl; done) | (obtain ⟨_, _, _, _, _, rfl, _⟩ := h; rfl; done) | (obtain ⟨_, _, _, _, _, _, rfl, _⟩ := h; rfl; done) | (obtain ⟨_, _, _, _, _, _, _, rfl, _⟩ := h; rfl; done) | (obtain ⟨_, _, _, _, _, _, _, _, rfl, _⟩ := h; rfl; done) | (obtain ⟨_, _, _, _, _, _, _, _, _, rfl, _⟩ := h; rfl; done) | (obtain ⟨_, _, _, _, _, _, _, _, _, _, rfl, _⟩ := h; rfl; done) | (rcases h with ⟨rfl | rfl, _⟩ <;> rfl) | (rcases h with ⟨rfl | rfl | rfl, _⟩ <;> rfl)) | (rcases h with h | h <;> first | (obtain ⟨rfl, _⟩ := h; rfl; done) | (obtain ⟨_, rfl, _⟩ := h; rfl; done) | (obtain ⟨_, _, rfl, _⟩ := h; rfl; done) | (obtain ⟨_, _, _, rfl, _⟩ := h; rfl; done) | (obtain ⟨_, _, _, _, rfl, _⟩ := h; rfl; done) | (obtain ⟨_, _, _, _, _, rfl, _⟩ := h; rfl; done) | (obtain ⟨_, _, _, _, _, _, rfl, _⟩ := h; rfl; done) | (obtain ⟨_, _, _, _, _, _, _, rfl, _⟩ := h; rfl; done) | (obtain ⟨_, _, _, _, _, _, _, _, rfl, _⟩ := h; rfl; done) | (obtain ⟨_, _, _, _, _, _, _, _, _, rfl, _⟩ := h; rfl; done) | (obtain ⟨_, _, _, _, _, _, _, _, _, _, rfl, _⟩ := h; rfl; done) | (rcases h with ⟨rfl | rfl, _⟩ <;> rfl) | (rcases h with ⟨rfl | rfl | rfl, _⟩ <;> rfl))
theorem len_take_least (cl : Str → Addr) : ∀ ds cs Φ Ψ, P_take_least cl ds cs Φ Ψ → ds.length = 2 := fun ds cs Φ Ψ h => by
  first | (obtain ⟨rfl, _⟩ := h; rfl; done) | (obtain ⟨_, rfl, _⟩ := h; rfl; done) | (obtain ⟨_, _, rfl, _⟩ := h; rfl; done) | (obtain ⟨_, _, _, rfl, _⟩ := h; rfl; done) | (obtain ⟨_, _, _, _, rfl, _⟩ := h; rfl; done) | (obtain ⟨_, _, _, _, _, rfl, _⟩ := h; rfl; done) | (obtain ⟨_, _, _, _, _, _, rfl, _⟩ := h; rfl; done) | (obtain ⟨_, _, _, _, _, _, _, rfl, _⟩ := h; rfl; done) | (obtain ⟨_, _, _, _, _, _, _, _, rfl, _⟩ := h; rfl; done) | (obtain ⟨_, _, _, _, _, _, _, _, _, rfl, _⟩ := h; rfl; done) | (obtain ⟨_, _, _, _, _, _, _, _, _, _, rfl, _⟩ := h; rfl; done) | (rcases h with h | h | h <;> first | (obtain ⟨rfl, _⟩ := h; rfl; done) | (obtain ⟨_, rfl, _⟩ := h; rfl; done) | (obtain ⟨_, _, rfl, _⟩ := h; rfl; done) | (obtain ⟨_, _, _, rfl, _⟩ := h; rfl; done) | (obtain ⟨_, _, _, _, rfl, _⟩ := h; rfl; done) | (obtain ⟨_, _, _, _, _, rfl, _⟩ := h; rfl; done) | (obtain ⟨_, _, _, _, _, _, rfl, _⟩ := h; rfl; done) | (obtain ⟨_, _, _, _, _, _, _, rfl, _⟩ := h; rfl; done) | (obtain ⟨_, _, _, _, _, _, _, _, rfl, _⟩ := h; rfl; done) | (obtain ⟨_, _, _, _, _, _, _, _, _, rfl, _⟩ := h; rfl; done) | (obtain ⟨_, _, _, _, _, _, _, _, _, _, rfl, _⟩ := h; rfl; done) | (rcases h with ⟨rfl | rfl, _⟩ <;> rfl) | (rcases h with ⟨rfl | rfl | rfl, _⟩ <;> rfl)) | (rcases h with h | h <;> first | (obtain ⟨rfl, _⟩ := h; rfl; done) | (obtain ⟨_, rfl, _⟩ := h; rfl; done) | (obtain ⟨_, _, rfl, _⟩ := h; rfl; done) | (obtain ⟨_, _, _, rfl, _⟩ := h; rfl; done) | (obtain ⟨_, _, _, _, rfl, _⟩ := h; rfl; done) | (obtain ⟨_, _, _, _, _, rfl, _⟩ := h; rfl; done) | (obtain ⟨_, _, _, _, _, _, rfl, _⟩ := h; rfl; done) | (obtain ⟨_, _, _, _, _, _, _, rfl, _⟩ := h; rfl; done) | (obtain ⟨_, _, _, _, _, _, _, _, rfl, _⟩ := h; rfl; done) | (obtain ⟨_, _, _, _, _, _, _, _, _, rfl, _⟩ := h; rfl; done) | (obtain ⟨_, _, _, _, _, _, _, _, _, _, rfl, _⟩ := h; rfl; done) | (rcases h with ⟨rfl | rfl, _⟩ <;> rfl) | (rcases h with ⟨rfl | rfl | rfl, _⟩ <;> rfl))
theorem len_least_of (cl : Str → Addr) : ∀ ds cs Φ Ψ, P_least_of cl ds cs Φ Ψ → ds.length = 1 := fun ds cs Φ Ψ h => by
  first | (obtain ⟨rfl, _⟩ := h; rfl; done) | (obtain ⟨_, rfl, _⟩ := h; rfl; done) | (obtain ⟨_, _, rfl, _⟩ := h; rfl; done) | (obtain ⟨_, _, _, rfl, _⟩ := h; rfl; done) | (obtain ⟨_, _, _, _, rfl, _⟩ := h; rfl; done) | (obtain ⟨_, _, _, _, _, rfl, _⟩ := h; rfl; done) | (obtain ⟨_, _, _, _, _, _, rfl, _⟩ := h; rfl; done) | (obtain ⟨_, _, _, _, _, _, _, rfl, _⟩ := h; rfl; done) | (obtain ⟨_, _, _, _, _, _, _, _, rfl, _⟩ := h; rfl; done) | (obtain ⟨_, _, _, _, _, _, _, _, _, rfl, _⟩ := h; rfl; done) | (obtain ⟨_, _, _, _, _, _, _, _, _, _, rfl, _⟩ := h; rfl; done) | (rcases h with h | h | h <;> first | (obtain ⟨rfl, _⟩ := h; rfl; done) | (obtain ⟨_, rfl, _⟩ := h; rfl; done) | (obtain ⟨_, _, rfl, _⟩ := h; rfl; done) | (obtain ⟨_, _, _, rfl, _⟩ := h; rfl; done) | (obtain ⟨_, _, _, _, rfl, _⟩ := h; rfl; done) | (obtain ⟨_, _, _, _, _, rfl, _⟩ := h; rfl; done) | (obtain ⟨_, _, _, _, _, _, rfl, _⟩ := h; rfl; done) | (obtain ⟨_, _, _, _, _, _, _, rfl, _⟩ := h; rfl; done) | (obtain ⟨_, _, _, _, _, _, _, _, rfl, _⟩ := h; rfl; done) | (obtain ⟨_, _, _, _, _, _, _, _, _, rfl, _⟩ := h; rfl; done) | (obtain ⟨_, _, _, _, _, _, _, _, _, _, rfl, _⟩ := h; rfl; done) | (rcases h with ⟨rfl | rfl, _⟩ <;> rfl) | (rcases h with ⟨rfl | rfl | rfl, _⟩ <;> rfl)) | (rcases h with h | h <;> first | (obtain ⟨rfl, _⟩ := h; rfl; done) | (obtain ⟨_, rfl, _⟩ := h; rfl; done) | (obtain ⟨_, _, rfl, _⟩ := h; rfl; done) | (obtain ⟨_, _, _, rfl, _⟩ := h; rfl; done) | (obtain ⟨_, _, _, _, rfl, _⟩ := h; rfl; done) | (obtain ⟨_, _, _, _, _, rfl, _⟩ := h; rfl; done) | (obtain ⟨_, _, _, _, _, _, rfl, _⟩ := h; rfl; done) | (obtain ⟨_, _, _, _, _, _, _, rfl, _⟩ := h; rfl; done) | (obtain ⟨_, _, _, _, _, _, _, _, rfl, _⟩ := h; rfl; done) | (obtain ⟨_, _, _, _, _, _, _, _, _, rfl, _⟩ := h; rfl; done) | (obtain ⟨_, _, _, _, _, _, _, _, _, _, rfl, _⟩ := h; rfl; done) | (rcases h with ⟨rfl | rfl, _⟩ <;> rfl) | (rcases h with ⟨rfl | rfl | rfl, _⟩ <;> rfl))
theorem len_least_sum (cl : Str → Addr) : ∀ ds cs Φ Ψ, P_least_sum cl ds cs Φ Ψ → ds.length = 1 := fun ds cs Φ Ψ h => by
  first | (obtain ⟨rfl, _⟩ := h; rfl; done) | (obtain ⟨_, rfl, _⟩ := h; rfl; done) | (obtain ⟨_, _, rfl, _⟩ := h; rfl; done) | (obtain ⟨_, _, _, rfl, _⟩ := h; rfl; done) | (obtain ⟨_, _, _, _, rfl, _⟩ := h; rfl; done) | (obtain ⟨_, _, _, _, _, rfl, _⟩ := h; rfl; done) | (obtain ⟨_, _, _, _, _, _, rfl, _⟩ := h; rfl; done) | (obtain ⟨_, _, _, _, _, _, _, rfl, _⟩ := h; rfl; done) | (obtain ⟨_, _, _, _, _, _, _, _, rfl, _⟩ := h; rfl; done) | (obtain ⟨_, _, _, _, _, _, _, _, _, rfl, _⟩ := h; rfl; done) | (obtain ⟨_, _, _, _, _, _, _, _, _, _, rfl, _⟩ := h; rfl; done) | (rcases h with h | h | h <;> first | (obtain ⟨rfl, _⟩ := h; rfl; done) | (obtain ⟨_, rfl, _⟩ := h; rfl; done) | (obtain ⟨_, _, rfl, _⟩ := h; rfl; done) | (obtain ⟨_, _, _, rfl, _⟩ := h; rfl; done) | (obtain ⟨_, _, _, _, rfl, _⟩ := h; rfl; done) | (obtain ⟨_, _, _, _, _, rfl, _⟩ := h; rfl; done) | (obtain ⟨_, _, _, _, _, _, rfl, _⟩ := h; rfl; done) | (obtain ⟨_, _, _, _, _, _, _, rfl, _⟩ := h; rfl; done) | (obtain ⟨_, _, _, _, _, _, _, _, rfl, _⟩ := h; rfl; done) | (obtain ⟨_, _, _, _, _, _, _, _, _, rfl, _⟩ := h; rfl; done) | (obtain ⟨_, _, _, _, _, _, _, _, _, _, rfl, _⟩ := h; rfl; done) | (rcases h with ⟨rfl | rfl, _⟩ <;> rfl) | (rcases h with ⟨rfl | rfl | rfl, _⟩ <;> rfl)) | (rcases h with h | h <;> first | (obtain ⟨rfl, _⟩ := h; rfl; done) | (obtain ⟨_, rfl, _⟩ := h; rfl; done) | (obtain ⟨_, _, rfl, _⟩ := h; rfl; done) | (obtain ⟨_, _, _, rfl, _⟩ := h; rfl; done) | (obtain ⟨_, _, _, _, rfl, _⟩ := h; rfl; done) | (obtain ⟨_, _, _, _, _, rfl, _⟩ := h; rfl; done) | (obtain ⟨_, _, _, _, _, _, rfl, _⟩ := h; rfl; done) | (obtain ⟨_, _, _, _, _, _, _, rfl, _⟩ := h; rfl; done) | (obtain ⟨_, _, _, _, _, _, _, _, rfl, _⟩ := h; rfl; done) | (obtain ⟨_, _, _, _, _, _, _, _, _, rfl, _⟩ := h; rfl; done) | (obtain ⟨_, _, _, _, _, _, _, _, _, _, rfl, _⟩ := h; rfl; done) | (rcases h with ⟨rfl | rfl, _⟩ <;> rfl) | (rcases h with ⟨rfl | rfl | rfl, _⟩ <;> rfl))
theorem len_counts_in (cl : Str → Addr) : ∀ ds cs Φ Ψ, P_counts_in cl ds cs Φ Ψ → ds.length = 1 := fun ds cs Φ Ψ h => by
  first | (obtain ⟨rfl, _⟩ := h; rfl; done) | (obtain ⟨_, rfl, _⟩ := h; rfl; done) | (obtain ⟨_, _, rfl, _⟩ := h; rfl; done) | (obtain ⟨_, _, _, rfl, _⟩ := h; rfl; done) | (obtain ⟨_, _, _, _, rfl, _⟩ := h; rfl; done) | (obtain ⟨_, _, _, _, _, rfl, _⟩ := h; rfl; done) | (obtain ⟨_, _, _, _, _, _, rfl, _⟩ := h; rfl; done) | (obtain ⟨_, _, _, _, _, _, _, rfl, _⟩ := h; rfl; done) | (obtain ⟨_, _, _, _, _, _, _, _, rfl, _⟩ := h; rfl; done) | (obtain ⟨_, _, _, _, _, _, _, _, _, rfl, _⟩ := h; rfl; done) | (obtain ⟨_, _, _, _, _, _, _, _, _, _, rfl, _⟩ := h; rfl; done) | (rcases h with h | h | h <;> first | (obtain ⟨rfl, _⟩ := h; rfl; done) | (obtain ⟨_, rfl, _⟩ := h; rfl; done) | (obtain ⟨_, _, rfl, _⟩ := h; rfl; done) | (obtain ⟨_, _, _, rfl, _⟩ := h; rfl; done) | (obtain ⟨_, _, _, _, rfl, _⟩ := h; rfl; done) | (obtain ⟨_, _, _, _, _, rfl, _⟩ := h; rfl; done) | (obtain ⟨_, _, _, _, _, _, rfl, _⟩ := h; rfl; done) | (obtain ⟨_, _, _, _, _, _, _, rfl, _⟩ := h; rfl; done) | (obtain ⟨_, _, _, _, _, _, _, _, rfl, _⟩ := h; rfl; done) | (obtain ⟨_, _, _, _, _, _, _, _, _, rfl, _⟩ := h; rfl; done) | (obtain ⟨_, _, _, _, _, _, _, _, _, _, rfl, _⟩ := h; rfl; done) | (rcases h with ⟨rfl | rfl, _⟩ <;> rfl) | (rcases h with ⟨rfl | rfl | rfl, _⟩ <;> rfl)) | (rcases h with h | h <;> first | (obtain ⟨rfl, _⟩ := h; rfl; done) | (obtain ⟨_, rfl, _⟩ := h; rfl; done) | (obtain ⟨_, _, rfl, _⟩ := h; rfl; done) | (obtain ⟨_, _, _, rfl, _⟩ := h; rfl; done) | (obtain ⟨_, _, _, _, rfl, _⟩ := h; rfl; done) | (obtain ⟨_, _, _, _, _, rfl, _⟩ := h; rfl; done) | (obtain ⟨_, _, _, _, _, _, rfl, _⟩ := h; rfl; done) | (obtain ⟨_, _, _, _, _, _, _, rfl, _⟩ := h; rfl; done) | (obtain ⟨_, _, _, _, _, _, _, _, rfl, _⟩ := h; rfl; done) | (obtain ⟨_, _, _, _, _, _, _, _, _, rfl, _⟩ := h; rfl; done) | (obtain ⟨_, _, _, _, _, _, _, _, _, _, rfl, _⟩ := h; rfl; done) | (rcases h with ⟨rfl | rfl, _⟩ <;> rfl) | (rcases h with ⟨rfl | rfl | rfl, _⟩ <;> rfl))
theorem len_sum_of (cl : Str → Addr) : ∀ ds cs Φ Ψ, P_sum_of cl ds cs Φ Ψ → ds.length = 1 := fun ds cs Φ Ψ h => by
  first | (obtain ⟨rfl, _⟩ := h; rfl; done) | (obtain ⟨_, rfl, _⟩ := h; rfl; done) | (obtain ⟨_, _, rfl, _⟩ := h; rfl; done) | (obtain ⟨_, _, _, rfl, _⟩ := h; rfl; done) | (obtain ⟨_, _, _, _, rfl, _⟩ := h; rfl; done) | (obtain ⟨_, _, _, _, _, rfl, _⟩ := h; rfl; done) | (obtain ⟨_, _, _, _, _, _, rfl, _⟩ := h; rfl; done) | (obtain ⟨_, _, _, _, _, _, _, rfl, _⟩ := h; rfl; done) | (obtain ⟨_, _, _, _, _, _, _, _, rfl, _⟩ := h; rfl; done) | (obtain ⟨_, _, _, _, _, _, _, _, _, rfl, _⟩ := h; rfl; done) | (obtain ⟨_, _, _, _, _, _, _, _, _, _, rfl, _⟩ := h; rfl; done) | (rcases h with h | h | h <;> first | (obtain ⟨rfl, _⟩ := h; rfl; done) | (obtain ⟨_, rfl, _⟩ := h; rfl; done) | (obtain ⟨_, _, rfl, _⟩ := h; rfl; done) | (obtain ⟨_, _, _, rfl, _⟩ := h; rfl; done) | (obtain ⟨_, _, _, _, rfl, _⟩ := h; rfl; done) | (obtain ⟨_, _, _, _, _, rfl, _⟩ := h; rfl; done) | (obtain ⟨_, _, _, _, _, _, rfl, _⟩ := h; rfl; done) | (obtain ⟨_, _, _, _, _, _, _, rfl, _⟩ := h; rfl; done) | (obtain ⟨_, _, _, _, _, _, _, _, rfl, _⟩ := h; rfl; done) | (obtain ⟨_, _, _, _, _, _, _, _, _, rfl, _⟩ := h; rfl; done) | (obtain ⟨_, _, _, _, _, _, _, _, _, _, rfl, _⟩ := h; rfl; done) | (rcases h with ⟨rfl | rfl, _⟩ <;> rfl) | (rcases h with ⟨rfl | rfl | rfl, _⟩ <;> rfl)) | (rcases h with h | h <;> first | (obtain ⟨rfl, _⟩ := h; rfl; done) | (obtain ⟨_, rfl, _⟩ := h; rfl; done) | (obtain ⟨_, _, rfl, _⟩ := h; rfl; done) | (obtain ⟨_, _, _, rfl, _⟩ := h; rfl; done) | (obtain ⟨_, _, _, _, rfl, _⟩ := h; rfl; done) | (obtain ⟨_, _, _, _, _, rfl, _⟩ := h; rfl; done) | (obtain ⟨_, _, _, _, _, _, rfl, _⟩ := h; rfl; done) | (obtain ⟨_, _, _, _, _, _, _, rfl, _⟩ := h; rfl; done) | (obtain ⟨_, _, _, _, _, _, _, _, rfl, _⟩ := h; rfl; done) | (obtain ⟨_, _, _, _, _, _, _, _, _, rfl, _⟩ := h; rfl; done) | (obtain ⟨_, _, _, _, _, _, _, _, _, _, rfl, _⟩ := h; rfl; done) | (rcases h with ⟨rfl | rfl, _⟩ <;> rfl) | (rcases h with ⟨rfl | rfl | rfl, _⟩ <;> rfl))
theorem len__law_pool (cl : Str → Addr) : ∀ ds cs Φ Ψ, P__law_pool cl ds cs Φ Ψ → ds.length = 2 := fun ds cs Φ Ψ h => by
  first | (obtain ⟨rfl, _⟩ := h; rfl; done) | (obtain ⟨_, rfl, _⟩ := h; rfl; done) | (obtain ⟨_, _, rfl, _⟩ := h; rfl; done) | (obtain ⟨_, _, _, rfl, _⟩ := h; rfl; done) | (obtain ⟨_, _, _, _, rfl, _⟩ := h; rfl; done) | (obtain ⟨_, _, _, _, _, rfl, _⟩ := h; rfl; done) | (obtain ⟨_, _, _, _, _, _, rfl, _⟩ := h; rfl; done) | (obtain ⟨_, _, _, _, _, _, _, rfl, _⟩ := h; rfl; done) | (obtain ⟨_, _, _, _, _, _, _, _, rfl, _⟩ := h; rfl; done) | (obtain ⟨_, _, _, _, _, _, _, _, _, rfl, _⟩ := h; rfl; done) | (obtain ⟨_, _, _, _, _, _, _, _, _, _, rfl, _⟩ := h; rfl; done) | (rcases h with h | h | h <;> first | (obtain ⟨rfl, _⟩ := h; rfl; done) | (obtain ⟨_, rfl, _⟩ := h; rfl; done) | (obtain ⟨_, _, rfl, _⟩ := h; rfl; done) | (obtain ⟨_, _, _, rfl, _⟩ := h; rfl; done) | (obtain ⟨_, _, _, _, rfl, _⟩ := h; rfl; done) | (obtain ⟨_, _, _, _, _, rfl, _⟩ := h; rfl; done) | (obtain ⟨_, _, _, _, _, _, rfl, _⟩ := h; rfl; done) | (obtain ⟨_, _, _, _, _, _, _, rfl, _⟩ := h; rfl; done) | (obtain ⟨_, _, _, _, _, _, _, _, rfl, _⟩ := h; rfl; done) | (obtain ⟨_, _, _, _, _, _, _, _, _, rfl, _⟩ := h; rfl; done) | (obtain ⟨_, _, _, _, _, _, _, _, _, _, rfl, _⟩ := h; rfl; done) | (rcases h with ⟨rfl | rfl, _⟩ <;> rfl) | (rcases h with ⟨rfl | rfl | rfl, _⟩ <;> rfl)) | (rcases h with h | h <;> first | (obtain ⟨rfl, _⟩ := h; rfl; done) | (obtain ⟨_, rfl, _⟩ := h; rfl; done) | (obtain ⟨_, _, rfl, _⟩ := h; rfl; done) | (obtain ⟨_, _, _, rfl, _⟩ := h; rfl; done) | (obtain ⟨_, _, _, _, rfl, _⟩ := h; rfl; done) | (obtain ⟨_, _, _, _, _, rfl, _⟩ := h; rfl; done) | (obtain ⟨_, _, _, _, _, _, rfl, _⟩ := h; rfl; done) | (obtain ⟨_, _, _, _, _, _, _, rfl, _⟩ := h; rfl; done) | (obtain ⟨_, _, _, _, _, _, _, _, rfl, _⟩ := h; rfl; done) | (obtain ⟨_, _, _, _, _, _, _, _, _, rfl, _⟩ := h; rfl; done) | (obtain ⟨_, _, _, _, _, _, _, _, _, _, rfl, _⟩ := h; rfl; done) | (rcases h with ⟨rfl | rfl, _⟩ <;> rfl) | (rcases h with ⟨rfl | rfl | rfl, _⟩ <;> rfl))
theorem len__law_take (cl : Str → Addr) : ∀ ds cs Φ Ψ, P__law_take cl ds cs Φ Ψ → ds.length = 2 := fun ds cs Φ Ψ h => by
  first | (obtain ⟨rfl, _⟩ := h; rfl; done) | (obtain ⟨_, rfl, _⟩ := h; rfl; done) | (obtain ⟨_, _, rfl, _⟩ := h; rfl; done) | (obtain ⟨_, _, _, rfl, _⟩ := h; rfl; done) | (obtain ⟨_, _, _, _, rfl, _⟩ := h; rfl; done) | (obtain ⟨_, _, _, _, _, rfl, _⟩ := h; rfl; done) | (obtain ⟨_, _, _, _, _, _, rfl, _⟩ := h; rfl; done) | (obtain ⟨_, _, _, _, _, _, _, rfl, _⟩ := h; rfl; done) | (obtain ⟨_, _, _, _, _, _, _, _, rfl, _⟩ := h; rfl; done) | (obtain ⟨_, _, _, _, _, _, _, _, _, rfl, _⟩ := h; rfl; done) | (obtain ⟨_, _, _, _, _, _, _, _, _, _, rfl, _⟩ := h; rfl; done) | (rcases h with h | h | h <;> first | (obtain ⟨rfl, _⟩ := h; rfl; done) | (obtain ⟨_, rfl, _⟩ := h; rfl; done) | (obtain ⟨_, _, rfl, _⟩ := h; rfl; done) | (obtain ⟨_, _, _, rfl, _⟩ := h; rfl; done) | (obtain ⟨_, _, _, _, rfl, _⟩ := h; rfl; done) | (obtain ⟨_, _, _, _, _, rfl, _⟩ := h; rfl; done) | (obtain ⟨_, _, _, _, _, _, rfl, _⟩ := h; rfl; done) | (obtain ⟨_, _, _, _, _, _, _, rfl, _⟩ := h; rfl; done) | (obtain ⟨_, _, _, _, _, _, _, _, rfl, _⟩ := h; rfl; done) | (obtain ⟨_, _, _, _, _, _, _, _, _, rfl, _⟩ := h; rfl; done) | (obtain ⟨_, _, _, _, _, _, _, _, _, _, rfl, _⟩ := h; rfl; done) | (rcases h with ⟨rfl | rfl, _⟩ <;> rfl) | (rcases h with ⟨rfl | rfl | rfl, _⟩ <;> rfl)) | (rcases h with h | h <;> first | (obtain ⟨rfl, _⟩ := h; rfl; done) | (obtain ⟨_, rfl, _⟩ := h; rfl; done) | (obtain ⟨_, _, rfl, _⟩ := h; rfl; done) | (obtain ⟨_, _, _, rfl, _⟩ := h; rfl; done) | (obtain ⟨_, _, _, _, rfl, _⟩ := h; rfl; done) | (obtain ⟨_, _, _, _, _, rfl, _⟩ := h; rfl; done) | (obtain ⟨_, _, _, _, _, _, rfl, _⟩ := h; rfl; done) | (obtain ⟨_, _, _, _, _, _, _, rfl, _⟩ := h; rfl; done) | (obtain ⟨_, _, _, _, _, _, _, _, rfl, _⟩ := h; rfl; done) | (obtain ⟨_, _, _, _, _, _, _, _, _, rfl, _⟩ := h; rfl; done) | (obtain ⟨_, _, _, _, _, _, _, _, _, _, rfl, _⟩ := h; rfl; done) | (rcases h with ⟨rfl | rfl, _⟩ <;> rfl) | (rcases h with ⟨rfl | rfl | rfl, _⟩ <;> rfl))
theorem len__law_one (cl : Str → Addr) : ∀ ds cs Φ Ψ, P__law_one cl ds cs Φ Ψ → ds.length = 2 := fun ds cs Φ Ψ h => by
  first | (obtain ⟨rfl, _⟩ := h; rfl; done) | (obtain ⟨_, rfl, _⟩ := h; rfl; done) | (obtain ⟨_, _, rfl, _⟩ := h; rfl; done) | (obtain ⟨_, _, _, rfl, _⟩ := h; rfl; done) | (obtain ⟨_, _, _, _, rfl, _⟩ := h; rfl; done) | (obtain ⟨_, _, _, _, _, rfl, _⟩ := h; rfl; done) | (obtain ⟨_, _, _, _, _, _, rfl, _⟩ := h; rfl; done) | (obtain ⟨_, _, _, _, _, _, _, rfl, _⟩ := h; rfl; done) | (obtain ⟨_, _, _, _, _, _, _, _, rfl, _⟩ := h; rfl; done) | (obtain ⟨_, _, _, _, _, _, _, _, _, rfl, _⟩ := h; rfl; done) | (obtain ⟨_, _, _, _, _, _, _, _, _, _, rfl, _⟩ := h; rfl; done) | (rcases h with h | h | h <;> first | (obtain ⟨rfl, _⟩ := h; rfl; done) | (obtain ⟨_, rfl, _⟩ := h; rfl; done) | (obtain ⟨_, _, rfl, _⟩ := h; rfl; done) | (obtain ⟨_, _, _, rfl, _⟩ := h; rfl; done) | (obtain ⟨_, _, _, _, rfl, _⟩ := h; rfl; done) | (obtain ⟨_, _, _, _, _, rfl, _⟩ := h; rfl; done) | (obtain ⟨_, _, _, _, _, _, rfl, _⟩ := h; rfl; done) | (obtain ⟨_, _, _, _, _, _, _, rfl, _⟩ := h; rfl; done) | (obtain ⟨_, _, _, _, _, _, _, _, rfl, _⟩ := h; rfl; done) | (obtain ⟨_, _, _, _, _, _, _, _, _, rfl, _⟩ := h; rfl; done) | (obtain ⟨_, _, _, _, _, _, _, _, _, _, rfl, _⟩ := h; rfl; done) | (rcases h with ⟨rfl | rfl, _⟩ <;> rfl) | (rcases h with ⟨rfl | rfl | rfl, _⟩ <;> rfl)) | (rcases h with h | h <;> first | (obtain ⟨rfl, _⟩ := h; rfl; done) | (obtain ⟨_, rfl, _⟩ := h; rfl; done) | (obtain ⟨_, _, rfl, _⟩ := h; rfl; done) | (obtain ⟨_, _, _, rfl, _⟩ := h; rfl; done) | (obtain ⟨_, _, _, _, rfl, _⟩ := h; rfl; done) | (obtain ⟨_, _, _, _, _, rfl, _⟩ := h; rfl; done) | (obtain ⟨_, _, _, _, _, _, rfl, _⟩ := h; rfl; done) | (obtain ⟨_, _, _, _, _, _, _, rfl, _⟩ := h; rfl; done) | (obtain ⟨_, _, _, _, _, _, _, _, rfl, _⟩ := h; rfl; done) | (obtain ⟨_, _, _, _, _, _, _, _, _, rfl, _⟩ := h; rfl; done) | (obtain ⟨_, _, _, _, _, _, _, _, _, _, rfl, _⟩ := h; rfl; done) | (rcases h with ⟨rfl | rfl, _⟩ <;> rfl) | (rcases h with ⟨rfl | rfl | rfl, _⟩ <;> rfl))
theorem len__law_alphabet (cl : Str → Addr) : ∀ ds cs Φ Ψ, P__law_alphabet cl ds cs Φ Ψ → ds.length = 2 := fun ds cs Φ Ψ h => by
  first | (obtain ⟨rfl, _⟩ := h; rfl; done) | (obtain ⟨_, rfl, _⟩ := h; rfl; done) | (obtain ⟨_, _, rfl, _⟩ := h; rfl; done) | (obtain ⟨_, _, _, rfl, _⟩ := h; rfl; done) | (obtain ⟨_, _, _, _, rfl, _⟩ := h; rfl; done) | (obtain ⟨_, _, _, _, _, rfl, _⟩ := h; rfl; done) | (obtain ⟨_, _, _, _, _, _, rfl, _⟩ := h; rfl; done) | (obtain ⟨_, _, _, _, _, _, _, rfl, _⟩ := h; rfl; done) | (obtain ⟨_, _, _, _, _, _, _, _, rfl, _⟩ := h; rfl; done) | (obtain ⟨_, _, _, _, _, _, _, _, _, rfl, _⟩ := h; rfl; done) | (obtain ⟨_, _, _, _, _, _, _, _, _, _, rfl, _⟩ := h; rfl; done) | (rcases h with h | h | h <;> first | (obtain ⟨rfl, _⟩ := h; rfl; done) | (obtain ⟨_, rfl, _⟩ := h; rfl; done) | (obtain ⟨_, _, rfl, _⟩ := h; rfl; done) | (obtain ⟨_, _, _, rfl, _⟩ := h; rfl; done) | (obtain ⟨_, _, _, _, rfl, _⟩ := h; rfl; done) | (obtain ⟨_, _, _, _, _, rfl, _⟩ := h; rfl; done) | (obtain ⟨_, _, _, _, _, _, rfl, _⟩ := h; rfl; done) | (obtain ⟨_, _, _, _, _, _, _, rfl, _⟩ := h; rfl; done) | (obtain ⟨_, _, _, _, _, _, _, _, rfl, _⟩ := h; rfl; done) | (obtain ⟨_, _, _, _, _, _, _, _, _, rfl, _⟩ := h; rfl; done) | (obtain ⟨_, _, _, _, _, _, _, _, _, _, rfl, _⟩ := h; rfl; done) | (rcases h with ⟨rfl | rfl, _⟩ <;> rfl) | (rcases h with ⟨rfl | rfl | rfl, _⟩ <;> rfl)) | (rcases h with h | h <;> first | (obtain ⟨rfl, _⟩ := h; rfl; done) | (obtain ⟨_, rfl, _⟩ := h; rfl; done) | (obtain ⟨_, _, rfl, _⟩ := h; rfl; done) | (obtain ⟨_, _, _, rfl, _⟩ := h; rfl; done) | (obtain ⟨_, _, _, _, rfl, _⟩ := h; rfl; done) | (obtain ⟨_, _, _, _, _, rfl, _⟩ := h; rfl; done) | (obtain ⟨_, _, _, _, _, _, rfl, _⟩ := h; rfl; done) | (obtain ⟨_, _, _, _, _, _, _, rfl, _⟩ := h; rfl; done) | (obtain ⟨_, _, _, _, _, _, _, _, rfl, _⟩ := h; rfl; done) | (obtain ⟨_, _, _, _, _, _, _, _, _, rfl, _⟩ := h; rfl; done) | (obtain ⟨_, _, _, _, _, _, _, _, _, _, rfl, _⟩ := h; rfl; done) | (rcases h with ⟨rfl | rfl, _⟩ <;> rfl) | (rcases h with ⟨rfl | rfl | rfl, _⟩ <;> rfl))
theorem len__law_letters (cl : Str → Addr) : ∀ ds cs Φ Ψ, P__law_letters cl ds cs Φ Ψ → ds.length = 2 := fun ds cs Φ Ψ h => by
  first | (obtain ⟨rfl, _⟩ := h; rfl; done) | (obtain ⟨_, rfl, _⟩ := h; rfl; done) | (obtain ⟨_, _, rfl, _⟩ := h; rfl; done) | (obtain ⟨_, _, _, rfl, _⟩ := h; rfl; done) | (obtain ⟨_, _, _, _, rfl, _⟩ := h; rfl; done) | (obtain ⟨_, _, _, _, _, rfl, _⟩ := h; rfl; done) | (obtain ⟨_, _, _, _, _, _, rfl, _⟩ := h; rfl; done) | (obtain ⟨_, _, _, _, _, _, _, rfl, _⟩ := h; rfl; done) | (obtain ⟨_, _, _, _, _, _, _, _, rfl, _⟩ := h; rfl; done) | (obtain ⟨_, _, _, _, _, _, _, _, _, rfl, _⟩ := h; rfl; done) | (obtain ⟨_, _, _, _, _, _, _, _, _, _, rfl, _⟩ := h; rfl; done) | (rcases h with h | h | h <;> first | (obtain ⟨rfl, _⟩ := h; rfl; done) | (obtain ⟨_, rfl, _⟩ := h; rfl; done) | (obtain ⟨_, _, rfl, _⟩ := h; rfl; done) | (obtain ⟨_, _, _, rfl, _⟩ := h; rfl; done) | (obtain ⟨_, _, _, _, rfl, _⟩ := h; rfl; done) | (obtain ⟨_, _, _, _, _, rfl, _⟩ := h; rfl; done) | (obtain ⟨_, _, _, _, _, _, rfl, _⟩ := h; rfl; done) | (obtain ⟨_, _, _, _, _, _, _, rfl, _⟩ := h; rfl; done) | (obtain ⟨_, _, _, _, _, _, _, _, rfl, _⟩ := h; rfl; done) | (obtain ⟨_, _, _, _, _, _, _, _, _, rfl, _⟩ := h; rfl; done) | (obtain ⟨_, _, _, _, _, _, _, _, _, _, rfl, _⟩ := h; rfl; done) | (rcases h with ⟨rfl | rfl, _⟩ <;> rfl) | (rcases h with ⟨rfl | rfl | rfl, _⟩ <;> rfl)) | (rcases h with h | h <;> first | (obtain ⟨rfl, _⟩ := h; rfl; done) | (obtain ⟨_, rfl, _⟩ := h; rfl; done) | (obtain ⟨_, _, rfl, _⟩ := h; rfl; done) | (obtain ⟨_, _, _, rfl, _⟩ := h; rfl; done) | (obtain ⟨_, _, _, _, rfl, _⟩ := h; rfl; done) | (obtain ⟨_, _, _, _, _, rfl, _⟩ := h; rfl; done) | (obtain ⟨_, _, _, _, _, _, rfl, _⟩ := h; rfl; done) | (obtain ⟨_, _, _, _, _, _, _, rfl, _⟩ := h; rfl; done) | (obtain ⟨_, _, _, _, _, _, _, _, rfl, _⟩ := h; rfl; done) | (obtain ⟨_, _, _, _, _, _, _, _, _, rfl, _⟩ := h; rfl; done) | (obtain ⟨_, _, _, _, _, _, _, _, _, _, rfl, _⟩ := h; rfl; done) | (rcases h with ⟨rfl | rfl, _⟩ <;> rfl) | (rcases h with ⟨rfl | rfl | rfl, _⟩ <;> rfl))
theorem len__law_counts (cl : Str → Addr) : ∀ ds cs Φ Ψ, P__law_counts cl ds cs Φ Ψ → ds.length = 2 := fun ds cs Φ Ψ h => by
  first | (obtain ⟨rfl, _⟩ := h; rfl; done) | (obtain ⟨_, rfl, _⟩ := h; rfl; done) | (obtain ⟨_, _, rfl, _⟩ := h; rfl; done) | (obtain ⟨_, _, _, rfl, _⟩ := h; rfl; done) | (obtain ⟨_, _, _, _, rfl, _⟩ := h; rfl; done) | (obtain ⟨_, _, _, _, _, rfl, _⟩ := h; rfl; done) | (obtain ⟨_, _, _, _, _, _, rfl, _⟩ := h; rfl; done) | (obtain ⟨_, _, _, _, _, _, _, rfl, _⟩ := h; rfl; done) | (obtain ⟨_, _, _, _, _, _, _, _, rfl, _⟩ := h; rfl; done) | (obtain ⟨_, _, _, _, _, _, _, _, _, rfl, _⟩ := h; rfl; done) | (obtain ⟨_, _, _, _, _, _, _, _, _, _, rfl, _⟩ := h; rfl; done) | (rcases h with h | h | h <;> first | (obtain ⟨rfl, _⟩ := h; rfl; done) | (obtain ⟨_, rfl, _⟩ := h; rfl; done) | (obtain ⟨_, _, rfl, _⟩ := h; rfl; done) | (obtain ⟨_, _, _, rfl, _⟩ := h; rfl; done) | (obtain ⟨_, _, _, _, rfl, _⟩ := h; rfl; done) | (obtain ⟨_, _, _, _, _, rfl, _⟩ := h; rfl; done) | (obtain ⟨_, _, _, _, _, _, rfl, _⟩ := h; rfl; done) | (obtain ⟨_, _, _, _, _, _, _, rfl, _⟩ := h; rfl; done) | (obtain ⟨_, _, _, _, _, _, _, _, rfl, _⟩ := h; rfl; done) | (obtain ⟨_, _, _, _, _, _, _, _, _, rfl, _⟩ := h; rfl; done) | (obtain ⟨_, _, _, _, _, _, _, _, _, _, rfl, _⟩ := h; rfl; done) | (rcases h with ⟨rfl | rfl, _⟩ <;> rfl) | (rcases h with ⟨rfl | rfl | rfl, _⟩ <;> rfl)) | (rcases h with h | h <;> first | (obtain ⟨rfl, _⟩ := h; rfl; done) | (obtain ⟨_, rfl, _⟩ := h; rfl; done) | (obtain ⟨_, _, rfl, _⟩ := h; rfl; done) | (obtain ⟨_, _, _, rfl, _⟩ := h; rfl; done) | (obtain ⟨_, _, _, _, rfl, _⟩ := h; rfl; done) | (obtain ⟨_, _, _, _, _, rfl, _⟩ := h; rfl; done) | (obtain ⟨_, _, _, _, _, _, rfl, _⟩ := h; rfl; done) | (obtain ⟨_, _, _, _, _, _, _, rfl, _⟩ := h; rfl; done) | (obtain ⟨_, _, _, _, _, _, _, _, rfl, _⟩ := h; rfl; done) | (obtain ⟨_, _, _, _, _, _, _, _, _, rfl, _⟩ := h; rfl; done) | (obtain ⟨_, _, _, _, _, _, _, _, _, _, rfl, _⟩ := h; rfl; done) | (rcases h with ⟨rfl | rfl, _⟩ <;> rfl) | (rcases h with ⟨rfl | rfl | rfl, _⟩ <;> rfl))
theorem len__law_counted (cl : Str → Addr) : ∀ ds cs Φ Ψ, P__law_counted cl ds cs Φ Ψ → ds.length = 1 := fun ds cs Φ Ψ h => by
  first | (obtain ⟨rfl, _⟩ := h; rfl; done) | (obtain ⟨_, rfl, _⟩ := h; rfl; done) | (obtain ⟨_, _, rfl, _⟩ := h; rfl; done) | (obtain ⟨_, _, _, rfl, _⟩ := h; rfl; done) | (obtain ⟨_, _, _, _, rfl, _⟩ := h; rfl; done) | (obtain ⟨_, _, _, _, _, rfl, _⟩ := h; rfl; done) | (obtain ⟨_, _, _, _, _, _, rfl, _⟩ := h; rfl; done) | (obtain ⟨_, _, _, _, _, _, _, rfl, _⟩ := h; rfl; done) | (obtain ⟨_, _, _, _, _, _, _, _, rfl, _⟩ := h; rfl; done) | (obtain ⟨_, _, _, _, _, _, _, _, _, rfl, _⟩ := h; rfl; done) | (obtain ⟨_, _, _, _, _, _, _, _, _, _, rfl, _⟩ := h; rfl; done) | (rcases h with h | h | h <;> first | (obtain ⟨rfl, _⟩ := h; rfl; done) | (obtain ⟨_, rfl, _⟩ := h; rfl; done) | (obtain ⟨_, _, rfl, _⟩ := h; rfl; done) | (obtain ⟨_, _, _, rfl, _⟩ := h; rfl; done) | (obtain ⟨_, _, _, _, rfl, _⟩ := h; rfl; done) | (obtain ⟨_, _, _, _, _, rfl, _⟩ := h; rfl; done) | (obtain ⟨_, _, _, _, _, _, rfl, _⟩ := h; rfl; done) | (obtain ⟨_, _, _, _, _, _, _, rfl, _⟩ := h; rfl; done) | (obtain ⟨_, _, _, _, _, _, _, _, rfl, _⟩ := h; rfl; done) | (obtain ⟨_, _, _, _, _, _, _, _, _, rfl, _⟩ := h; rfl; done) | (obtain ⟨_, _, _, _, _, _, _, _, _, _, rfl, _⟩ := h; rfl; done) | (rcases h with ⟨rfl | rfl, _⟩ <;> rfl) | (rcases h with ⟨rfl | rfl | rfl, _⟩ <;> rfl)) | (rcases h with h | h <;> first | (obtain ⟨rfl, _⟩ := h; rfl; done) | (obtain ⟨_, rfl, _⟩ := h; rfl; done) | (obtain ⟨_, _, rfl, _⟩ := h; rfl; done) | (obtain ⟨_, _, _, rfl, _⟩ := h; rfl; done) | (obtain ⟨_, _, _, _, rfl, _⟩ := h; rfl; done) | (obtain ⟨_, _, _, _, _, rfl, _⟩ := h; rfl; done) | (obtain ⟨_, _, _, _, _, _, rfl, _⟩ := h; rfl; done) | (obtain ⟨_, _, _, _, _, _, _, rfl, _⟩ := h; rfl; done) | (obtain ⟨_, _, _, _, _, _, _, _, rfl, _⟩ := h; rfl; done) | (obtain ⟨_, _, _, _, _, _, _, _, _, rfl, _⟩ := h; rfl; done) | (obtain ⟨_, _, _, _, _, _, _, _, _, _, rfl, _⟩ := h; rfl; done) | (rcases h with ⟨rfl | rfl, _⟩ <;> rfl) | (rcases h with ⟨rfl | rfl | rfl, _⟩ <;> rfl))
theorem len__law_least (cl : Str → Addr) : ∀ ds cs Φ Ψ, P__law_least cl ds cs Φ Ψ → ds.length = 1 := fun ds cs Φ Ψ h => by
  first | (obtain ⟨rfl, _⟩ := h; rfl; done) | (obtain ⟨_, rfl, _⟩ := h; rfl; done) | (obtain ⟨_, _, rfl, _⟩ := h; rfl; done) | (obtain ⟨_, _, _, rfl, _⟩ := h; rfl; done) | (obtain ⟨_, _, _, _, rfl, _⟩ := h; rfl; done) | (obtain ⟨_, _, _, _, _, rfl, _⟩ := h; rfl; done) | (obtain ⟨_, _, _, _, _, _, rfl, _⟩ := h; rfl; done) | (obtain ⟨_, _, _, _, _, _, _, rfl, _⟩ := h; rfl; done) | (obtain ⟨_, _, _, _, _, _, _, _, rfl, _⟩ := h; rfl; done) | (obtain ⟨_, _, _, _, _, _, _, _, _, rfl, _⟩ := h; rfl; done) | (obtain ⟨_, _, _, _, _, _, _, _, _, _, rfl, _⟩ := h; rfl; done) | (rcases h with h | h | h <;> first | (obtain ⟨rfl, _⟩ := h; rfl; done) | (obtain ⟨_, rfl, _⟩ := h; rfl; done) | (obtain ⟨_, _, rfl, _⟩ := h; rfl; done) | (obtain ⟨_, _, _, rfl, _⟩ := h; rfl; done) | (obtain ⟨_, _, _, _, rfl, _⟩ := h; rfl; done) | (obtain ⟨_, _, _, _, _, rfl, _⟩ := h; rfl; done) | (obtain ⟨_, _, _, _, _, _, rfl, _⟩ := h; rfl; done) | (obtain ⟨_, _, _, _, _, _, _, rfl, _⟩ := h; rfl; done) | (obtain ⟨_, _, _, _, _, _, _, _, rfl, _⟩ := h; rfl; done) | (obtain ⟨_, _, _, _, _, _, _, _, _, rfl, _⟩ := h; rfl; done) | (obtain ⟨_, _, _, _, _, _, _, _, _, _, rfl, _⟩ := h; rfl; done) | (rcases h with ⟨rfl | rfl, _⟩ <;> rfl) | (rcases h with ⟨rfl | rfl | rfl, _⟩ <;> rfl)) | (rcases h with h | h <;> first | (obtain ⟨rfl, _⟩ := h; rfl; done) | (obtain ⟨_, rfl, _⟩ := h; rfl; done) | (obtain ⟨_, _, rfl, _⟩ := h; rfl; done) | (obtain ⟨_, _, _, rfl, _⟩ := h; rfl; done) | (obtain ⟨_, _, _, _, rfl, _⟩ := h; rfl; done) | (obtain ⟨_, _, _, _, _, rfl, _⟩ := h; rfl; done) | (obtain ⟨_, _, _, _, _, _, rfl, _⟩ := h; rfl; done) | (obtain ⟨_, _, _, _, _, _, _, rfl, _⟩ := h; rfl; done) | (obtain ⟨_, _, _, _, _, _, _, _, rfl, _⟩ := h; rfl; done) | (obtain ⟨_, _, _, _, _, _, _, _, _, rfl, _⟩ := h; rfl; done) | (obtain ⟨_, _, _, _, _, _, _, _, _, _, rfl, _⟩ := h; rfl; done) | (rcases h with ⟨rfl | rfl, _⟩ <;> rfl) | (rcases h with ⟨rfl | rfl | rfl, _⟩ <;> rfl))
theorem len__law_made (cl : Str → Addr) : ∀ ds cs Φ Ψ, P__law_made cl ds cs Φ Ψ → ds.length = 1 := fun ds cs Φ Ψ h => by
  first | (obtain ⟨rfl, _⟩ := h; rfl; done) | (obtain ⟨_, rfl, _⟩ := h; rfl; done) | (obtain ⟨_, _, rfl, _⟩ := h; rfl; done) | (obtain ⟨_, _, _, rfl, _⟩ := h; rfl; done) | (obtain ⟨_, _, _, _, rfl, _⟩ := h; rfl; done) | (obtain ⟨_, _, _, _, _, rfl, _⟩ := h; rfl; done) | (obtain ⟨_, _, _, _, _, _, rfl, _⟩ := h; rfl; done) | (obtain ⟨_, _, _, _, _, _, _, rfl, _⟩ := h; rfl; done) | (obtain ⟨_, _, _, _, _, _, _, _, rfl, _⟩ := h; rfl; done) | (obtain ⟨_, _, _, _, _, _, _, _, _, rfl, _⟩ := h; rfl; done) | (obtain ⟨_, _, _, _, _, _, _, _, _, _, rfl, _⟩ := h; rfl; done) | (rcases h with h | h | h <;> first | (obtain ⟨rfl, _⟩ := h; rfl; done) | (obtain ⟨_, rfl, _⟩ := h; rfl; done) | (obtain ⟨_, _, rfl, _⟩ := h; rfl; done) | (obtain ⟨_, _, _, rfl, _⟩ := h; rfl; done) | (obtain ⟨_, _, _, _, rfl, _⟩ := h; rfl; done) | (obtain ⟨_, _, _, _, _, rfl, _⟩ := h; rfl; done) | (obtain ⟨_, _, _, _, _, _, rfl, _⟩ := h; rfl; done) | (obtain ⟨_, _, _, _, _, _, _, rfl, _⟩ := h; rfl; done) | (obtain ⟨_, _, _, _, _, _, _, _, rfl, _⟩ := h; rfl; done) | (obtain ⟨_, _, _, _, _, _, _, _, _, rfl, _⟩ := h; rfl; done) | (obtain ⟨_, _, _, _, _, _, _, _, _, _, rfl, _⟩ := h; rfl; done) | (rcases h with ⟨rfl | rfl, _⟩ <;> rfl) | (rcases h with ⟨rfl | rfl | rfl, _⟩ <;> rfl)) | (rcases h with h | h <;> first | (obtain ⟨rfl, _⟩ := h; rfl; done) | (obtain ⟨_, rfl, _⟩ := h; rfl; done) | (obtain ⟨_, _, rfl, _⟩ := h; rfl; done) | (obtain ⟨_, _, _, rfl, _⟩ := h; rfl; done) | (obtain ⟨_, _, _, _, rfl, _⟩ := h; rfl; done) | (obtain ⟨_, _, _, _, _, rfl, _⟩ := h; rfl; done) | (obtain ⟨_, _, _, _, _, _, rfl, _⟩ := h; rfl; done) | (obtain ⟨_, _, _, _, _, _, _, rfl, _⟩ := h; rfl; done) | (obtain ⟨_, _, _, _, _, _, _, _, rfl, _⟩ := h; rfl; done) | (obtain ⟨_, _, _, _, _, _, _, _, _, rfl, _⟩ := h; rfl; done) | (obtain ⟨_, _, _, _, _, _, _, _, _, _, rfl, _⟩ := h; rfl; done) | (rcases h with ⟨rfl | rfl, _⟩ <;> rfl) | (rcases h with ⟨rfl | rfl | rfl, _⟩ <;> rfl))
theorem len__law_tuple (cl : Str → Addr) : ∀ ds cs Φ Ψ, P__law_tuple cl ds cs Φ Ψ → ds.length = 1 := fun ds cs Φ Ψ h => by
  first | (obtain ⟨rfl, _⟩ := h; rfl; done) | (obtain ⟨_, rfl, _⟩ := h; rfl; done) | (obtain ⟨_, _, rfl, _⟩ := h; rfl; done) | (obtain ⟨_, _, _, rfl, _⟩ := h; rfl; done) | (obtain ⟨_, _, _, _, rfl, _⟩ := h; rfl; done) | (obtain ⟨_, _, _, _, _, rfl, _⟩ := h; rfl; done) | (obtain ⟨_, _, _, _, _, _, rfl, _⟩ := h; rfl; done) | (obtain ⟨_, _, _, _, _, _, _, rfl, _⟩ := h; rfl; done) | (obtain ⟨_, _, _, _, _, _, _, _, rfl, _⟩ := h; rfl; done) | (obtain ⟨_, _, _, _, _, _, _, _, _, rfl, _⟩ := h; rfl; done) | (obtain ⟨_, _, _, _, _, _, _, _, _, _, rfl, _⟩ := h; rfl; done) | (rcases h with h | h | h <;> first | (obtain ⟨rfl, _⟩ := h; rfl; done) | (obtain ⟨_, rfl, _⟩ := h; rfl; done) | (obtain ⟨_, _, rfl, _⟩ := h; rfl; done) | (obtain ⟨_, _, _, rfl, _⟩ := h; rfl; done) | (obtain ⟨_, _, _, _, rfl, _⟩ := h; rfl; done) | (obtain ⟨_, _, _, _, _, rfl, _⟩ := h; rfl; done) | (obtain ⟨_, _, _, _, _, _, rfl, _⟩ := h; rfl; done) | (obtain ⟨_, _, _, _, _, _, _, rfl, _⟩ := h; rfl; done) | (obtain ⟨_, _, _, _, _, _, _, _, rfl, _⟩ := h; rfl; done) | (obtain ⟨_, _, _, _, _, _, _, _, _, rfl, _⟩ := h; rfl; done) | (obtain ⟨_, _, _, _, _, _, _, _, _, _, rfl, _⟩ := h; rfl; done) | (rcases h with ⟨rfl | rfl, _⟩ <;> rfl) | (rcases h with ⟨rfl | rfl | rfl, _⟩ <;> rfl)) | (rcases h with h | h <;> first | (obtain ⟨rfl, _⟩ := h; rfl; done) | (obtain ⟨_, rfl, _⟩ := h; rfl; done) | (obtain ⟨_, _, rfl, _⟩ := h; rfl; done) | (obtain ⟨_, _, _, rfl, _⟩ := h; rfl; done) | (obtain ⟨_, _, _, _, rfl, _⟩ := h; rfl; done) | (obtain ⟨_, _, _, _, _, rfl, _⟩ := h; rfl; done) | (obtain ⟨_, _, _, _, _, _, rfl, _⟩ := h; rfl; done) | (obtain ⟨_, _, _, _, _, _, _, rfl, _⟩ := h; rfl; done) | (obtain ⟨_, _, _, _, _, _, _, _, rfl, _⟩ := h; rfl; done) | (obtain ⟨_, _, _, _, _, _, _, _, _, rfl, _⟩ := h; rfl; done) | (obtain ⟨_, _, _, _, _, _, _, _, _, _, rfl, _⟩ := h; rfl; done) | (rcases h with ⟨rfl | rfl, _⟩ <;> rfl) | (rcases h with ⟨rfl | rfl | rfl, _⟩ <;> rfl))
theorem len__law_told (cl : Str → Addr) : ∀ ds cs Φ Ψ, P__law_told cl ds cs Φ Ψ → ds.length = 1 := fun ds cs Φ Ψ h => by
  first | (obtain ⟨rfl, _⟩ := h; rfl; done) | (obtain ⟨_, rfl, _⟩ := h; rfl; done) | (obtain ⟨_, _, rfl, _⟩ := h; rfl; done) | (obtain ⟨_, _, _, rfl, _⟩ := h; rfl; done) | (obtain ⟨_, _, _, _, rfl, _⟩ := h; rfl; done) | (obtain ⟨_, _, _, _, _, rfl, _⟩ := h; rfl; done) | (obtain ⟨_, _, _, _, _, _, rfl, _⟩ := h; rfl; done) | (obtain ⟨_, _, _, _, _, _, _, rfl, _⟩ := h; rfl; done) | (obtain ⟨_, _, _, _, _, _, _, _, rfl, _⟩ := h; rfl; done) | (obtain ⟨_, _, _, _, _, _, _, _, _, rfl, _⟩ := h; rfl; done) | (obtain ⟨_, _, _, _, _, _, _, _, _, _, rfl, _⟩ := h; rfl; done) | (rcases h with h | h | h <;> first | (obtain ⟨rfl, _⟩ := h; rfl; done) | (obtain ⟨_, rfl, _⟩ := h; rfl; done) | (obtain ⟨_, _, rfl, _⟩ := h; rfl; done) | (obtain ⟨_, _, _, rfl, _⟩ := h; rfl; done) | (obtain ⟨_, _, _, _, rfl, _⟩ := h; rfl; done) | (obtain ⟨_, _, _, _, _, rfl, _⟩ := h; rfl; done) | (obtain ⟨_, _, _, _, _, _, rfl, _⟩ := h; rfl; done) | (obtain ⟨_, _, _, _, _, _, _, rfl, _⟩ := h; rfl; done) | (obtain ⟨_, _, _, _, _, _, _, _, rfl, _⟩ := h; rfl; done) | (obtain ⟨_, _, _, _, _, _, _, _, _, rfl, _⟩ := h; rfl; done) | (obtain ⟨_, _, _, _, _, _, _, _, _, _, rfl, _⟩ := h; rfl; done) | (rcases h with ⟨rfl | rfl, _⟩ <;> rfl) | (rcases h with ⟨rfl | rfl | rfl, _⟩ <;> rfl)) | (rcases h with h | h <;> first | (obtain ⟨rfl, _⟩ := h; rfl; done) | (obtain ⟨_, rfl, _⟩ := h; rfl; done) | (obtain ⟨_, _, rfl, _⟩ := h; rfl; done) | (obtain ⟨_, _, _, rfl, _⟩ := h; rfl; done) | (obtain ⟨_, _, _, _, rfl, _⟩ := h; rfl; done) | (obtain ⟨_, _, _, _, _, rfl, _⟩ := h; rfl; done) | (obtain ⟨_, _, _, _, _, _, rfl, _⟩ := h; rfl; done) | (obtain ⟨_, _, _, _, _, _, _, rfl, _⟩ := h; rfl; done) | (obtain ⟨_, _, _, _, _, _, _, _, rfl, _⟩ := h; rfl; done) | (obtain ⟨_, _, _, _, _, _, _, _, _, rfl, _⟩ := h; rfl; done) | (obtain ⟨_, _, _, _, _, _, _, _, _, _, rfl, _⟩ := h; rfl; done) | (rcases h with ⟨rfl | rfl, _⟩ <;> rfl) | (rcases h with ⟨rfl | rfl | rfl, _⟩ <;> rfl))
theorem len__law_made_right (cl : Str → Addr) : ∀ ds cs Φ Ψ, P__law_made_right cl ds cs Φ Ψ → ds.length = 1 := fun ds cs Φ Ψ h => by
  first | (obtain ⟨rfl, _⟩ := h; rfl; done) | (obtain ⟨_, rfl, _⟩ := h; rfl; done) | (obtain ⟨_, _, rfl, _⟩ := h; rfl; done) | (obtain ⟨_, _, _, rfl, _⟩ := h; rfl; done) | (obtain ⟨_, _, _, _, rfl, _⟩ := h; rfl; done) | (obtain ⟨_, _, _, _, _, rfl, _⟩ := h; rfl; done) | (obtain ⟨_, _, _, _, _, _, rfl, _⟩ := h; rfl; done) | (obtain ⟨_, _, _, _, _, _, _, rfl, _⟩ := h; rfl; done) | (obtain ⟨_, _, _, _, _, _, _, _, rfl, _⟩ := h; rfl; done) | (obtain ⟨_, _, _, _, _, _, _, _, _, rfl, _⟩ := h; rfl; done) | (obtain ⟨_, _, _, _, _, _, _, _, _, _, rfl, _⟩ := h; rfl; done) | (rcases h with h | h | h <;> first | (obtain ⟨rfl, _⟩ := h; rfl; done) | (obtain ⟨_, rfl, _⟩ := h; rfl; done) | (obtain ⟨_, _, rfl, _⟩ := h; rfl; done) | (obtain ⟨_, _, _, rfl, _⟩ := h; rfl; done) | (obtain ⟨_, _, _, _, rfl, _⟩ := h; rfl; done) | (obtain ⟨_, _, _, _, _, rfl, _⟩ := h; rfl; done) | (obtain ⟨_, _, _, _, _, _, rfl, _⟩ := h; rfl; done) | (obtain ⟨_, _, _, _, _, _, _, rfl, _⟩ := h; rfl; done) | (obtain ⟨_, _, _, _, _, _, _, _, rfl, _⟩ := h; rfl; done) | (obtain ⟨_, _, _, _, _, _, _, _, _, rfl, _⟩ := h; rfl; done) | (obtain ⟨_, _, _, _, _, _, _, _, _, _, rfl, _⟩ := h; rfl; done) | (rcases h with ⟨rfl | rfl, _⟩ <;> rfl) | (rcases h with ⟨rfl | rfl | rfl, _⟩ <;> rfl)) | (rcases h with h | h <;> first | (obtain ⟨rfl, _⟩ := h; rfl; done) | (obtain ⟨_, rfl, _⟩ := h; rfl; done) | (obtain ⟨_, _, rfl, _⟩ := h; rfl; done) | (obtain ⟨_, _, _, rfl, _⟩ := h; rfl; done) | (obtain ⟨_, _, _, _, rfl, _⟩ := h; rfl; done) | (obtain ⟨_, _, _, _, _, rfl, _⟩ := h; rfl; done) | (obtain ⟨_, _, _, _, _, _, rfl, _⟩ := h; rfl; done) | (obtain ⟨_, _, _, _, _, _, _, rfl, _⟩ := h; rfl; done) | (obtain ⟨_, _, _, _, _, _, _, _, rfl, _⟩ := h; rfl; done) | (obtain ⟨_, _, _, _, _, _, _, _, _, rfl, _⟩ := h; rfl; done) | (obtain ⟨_, _, _, _, _, _, _, _, _, _, rfl, _⟩ := h; rfl; done) | (rcases h with ⟨rfl | rfl, _⟩ <;> rfl) | (rcases h with ⟨rfl | rfl | rfl, _⟩ <;> rfl))
theorem len__law_fault_right (cl : Str → Addr) : ∀ ds cs Φ Ψ, P__law_fault_right cl ds cs Φ Ψ → ds.length = 2 := fun ds cs Φ Ψ h => by
  first | (obtain ⟨rfl, _⟩ := h; rfl; done) | (obtain ⟨_, rfl, _⟩ := h; rfl; done) | (obtain ⟨_, _, rfl, _⟩ := h; rfl; done) | (obtain ⟨_, _, _, rfl, _⟩ := h; rfl; done) | (obtain ⟨_, _, _, _, rfl, _⟩ := h; rfl; done) | (obtain ⟨_, _, _, _, _, rfl, _⟩ := h; rfl; done) | (obtain ⟨_, _, _, _, _, _, rfl, _⟩ := h; rfl; done) | (obtain ⟨_, _, _, _, _, _, _, rfl, _⟩ := h; rfl; done) | (obtain ⟨_, _, _, _, _, _, _, _, rfl, _⟩ := h; rfl; done) | (obtain ⟨_, _, _, _, _, _, _, _, _, rfl, _⟩ := h; rfl; done) | (obtain ⟨_, _, _, _, _, _, _, _, _, _, rfl, _⟩ := h; rfl; done) | (rcases h with h | h | h <;> first | (obtain ⟨rfl, _⟩ := h; rfl; done) | (obtain ⟨_, rfl, _⟩ := h; rfl; done) | (obtain ⟨_, _, rfl, _⟩ := h; rfl; done) | (obtain ⟨_, _, _, rfl, _⟩ := h; rfl; done) | (obtain ⟨_, _, _, _, rfl, _⟩ := h; rfl; done) | (obtain ⟨_, _, _, _, _, rfl, _⟩ := h; rfl; done) | (obtain ⟨_, _, _, _, _, _, rfl, _⟩ := h; rfl; done) | (obtain ⟨_, _, _, _, _, _, _, rfl, _⟩ := h; rfl; done) | (obtain ⟨_, _, _, _, _, _, _, _, rfl, _⟩ := h; rfl; done) | (obtain ⟨_, _, _, _, _, _, _, _, _, rfl, _⟩ := h; rfl; done) | (obtain ⟨_, _, _, _, _, _, _, _, _, _, rfl, _⟩ := h; rfl; done) | (rcases h with ⟨rfl | rfl, _⟩ <;> rfl) | (rcases h with ⟨rfl | rfl | rfl, _⟩ <;> rfl)) | (rcases h with h | h <;> first | (obtain ⟨rfl, _⟩ := h; rfl; done) | (obtain ⟨_, rfl, _⟩ := h; rfl; done) | (obtain ⟨_, _, rfl, _⟩ := h; rfl; done) | (obtain ⟨_, _, _, rfl, _⟩ := h; rfl; done) | (obtain ⟨_, _, _, _, rfl, _⟩ := h; rfl; done) | (obtain ⟨_, _, _, _, _, rfl, _⟩ := h; rfl; done) | (obtain ⟨_, _, _, _, _, _, rfl, _⟩ := h; rfl; done) | (obtain ⟨_, _, _, _, _, _, _, rfl, _⟩ := h; rfl; done) | (obtain ⟨_, _, _, _, _, _, _, _, rfl, _⟩ := h; rfl; done) | (obtain ⟨_, _, _, _, _, _, _, _, _, rfl, _⟩ := h; rfl; done) | (obtain ⟨_, _, _, _, _, _, _, _, _, _, rfl, _⟩ := h; rfl; done) | (rcases h with ⟨rfl | rfl, _⟩ <;> rfl) | (rcases h with ⟨rfl | rfl | rfl, _⟩ <;> rfl))
theorem len__law_right (cl : Str → Addr) : ∀ ds cs Φ Ψ, P__law_right cl ds cs Φ Ψ → ds.length = 1 := fun ds cs Φ Ψ h => by
  first | (obtain ⟨rfl, _⟩ := h; rfl; done) | (obtain ⟨_, rfl, _⟩ := h; rfl; done) | (obtain ⟨_, _, rfl, _⟩ := h; rfl; done) | (obtain ⟨_, _, _, rfl, _⟩ := h; rfl; done) | (obtain ⟨_, _, _, _, rfl, _⟩ := h; rfl; done) | (obtain ⟨_, _, _, _, _, rfl, _⟩ := h; rfl; done) | (obtain ⟨_, _, _, _, _, _, rfl, _⟩ := h; rfl; done) | (obtain ⟨_, _, _, _, _, _, _, rfl, _⟩ := h; rfl; done) | (obtain ⟨_, _, _, _, _, _, _, _, rfl, _⟩ := h; rfl; done) | (obtain ⟨_, _, _, _, _, _, _, _, _, rfl, _⟩ := h; rfl; done) | (obtain ⟨_, _, _, _, _, _, _, _, _, _, rfl, _⟩ := h; rfl; done) | (rcases h with h | h | h <;> first | (obtain ⟨rfl, _⟩ := h; rfl; done) | (obtain ⟨_, rfl, _⟩ := h; rfl; done) | (obtain ⟨_, _, rfl, _⟩ := h; rfl; done) | (obtain ⟨_, _, _, rfl, _⟩ := h; rfl; done) | (obtain ⟨_, _, _, _, rfl, _⟩ := h; rfl; done) | (obtain ⟨_, _, _, _, _, rfl, _⟩ := h; rfl; done) | (obtain ⟨_, _, _, _, _, _, rfl, _⟩ := h; rfl; done) | (obtain ⟨_, _, _, _, _, _, _, rfl, _⟩ := h; rfl; done) | (obtain ⟨_, _, _, _, _, _, _, _, rfl, _⟩ := h; rfl; done) | (obtain ⟨_, _, _, _, _, _, _, _, _, rfl, _⟩ := h; rfl; done) | (obtain ⟨_, _, _, _, _, _, _, _, _, _, rfl, _⟩ := h; rfl; done) | (rcases h with ⟨rfl | rfl, _⟩ <;> rfl) | (rcases h with ⟨rfl | rfl | rfl, _⟩ <;> rfl)) | (rcases h with h | h <;> first | (obtain ⟨rfl, _⟩ := h; rfl; done) | (obtain ⟨_, rfl, _⟩ := h; rfl; done) | (obtain ⟨_, _, rfl, _⟩ := h; rfl; done) | (obtain ⟨_, _, _, rfl, _⟩ := h; rfl; done) | (obtain ⟨_, _, _, _, rfl, _⟩ := h; rfl; done) | (obtain ⟨_, _, _, _, _, rfl, _⟩ := h; rfl; done) | (obtain ⟨_, _, _, _, _, _, rfl, _⟩ := h; rfl; done) | (obtain ⟨_, _, _, _, _, _, _, rfl, _⟩ := h; rfl; done) | (obtain ⟨_, _, _, _, _, _, _, _, rfl, _⟩ := h; rfl; done) | (obtain ⟨_, _, _, _, _, _, _, _, _, rfl, _⟩ := h; rfl; done) | (obtain ⟨_, _, _, _, _, _, _, _, _, _, rfl, _⟩ := h; rfl; done) | (rcases h with ⟨rfl | rfl, _⟩ <;> rfl) | (rcases h with ⟨rfl | rfl | rfl, _⟩ <;> rfl))
theorem len_law (cl : Str → Addr) : ∀ ds cs Φ Ψ, P_law cl ds cs Φ Ψ → ds.length = 1 := fun ds cs Φ Ψ h => by
  first | (obtain ⟨rfl, _⟩ := h; rfl; done) | (obtain ⟨_, rfl, _⟩ := h; rfl; done) | (obtain ⟨_, _, rfl, _⟩ := h; rfl; done) | (obtain ⟨_, _, _, rfl, _⟩ := h; rfl; done) | (obtain ⟨_, _, _, _, rfl, _⟩ := h; rfl; done) | (obtain ⟨_, _, _, _, _, rfl, _⟩ := h; rfl; done) | (obtain ⟨_, _, _, _, _, _, rfl, _⟩ := h; rfl; done) | (obtain ⟨_, _, _, _, _, _, _, rfl, _⟩ := h; rfl; done) | (obtain ⟨_, _, _, _, _, _, _, _, rfl, _⟩ := h; rfl; done) | (obtain ⟨_, _, _, _, _, _, _, _, _, rfl, _⟩ := h; rfl; done) | (obtain ⟨_, _, _, _, _, _, _, _, _, _, rfl, _⟩ := h; rfl; done) | (rcases h with h | h | h <;> first | (obtain ⟨rfl, _⟩ := h; rfl; done) | (obtain ⟨_, rfl, _⟩ := h; rfl; done) | (obtain ⟨_, _, rfl, _⟩ := h; rfl; done) | (obtain ⟨_, _, _, rfl, _⟩ := h; rfl; done) | (obtain ⟨_, _, _, _, rfl, _⟩ := h; rfl; done) | (obtain ⟨_, _, _, _, _, rfl, _⟩ := h; rfl; done) | (obtain ⟨_, _, _, _, _, _, rfl, _⟩ := h; rfl; done) | (obtain ⟨_, _, _, _, _, _, _, rfl, _⟩ := h; rfl; done) | (obtain ⟨_, _, _, _, _, _, _, _, rfl, _⟩ := h; rfl; done) | (obtain ⟨_, _, _, _, _, _, _, _, _, rfl, _⟩ := h; rfl; done) | (obtain ⟨_, _, _, _, _, _, _, _, _, _, rfl, _⟩ := h; rfl; done) | (rcases h with ⟨rfl | rfl, _⟩ <;> rfl) | (rcases h with ⟨rfl | rfl | rfl, _⟩ <;> rfl)) | (rcases h with h | h <;> first | (obtain ⟨rfl, _⟩ := h; rfl; done) | (obtain ⟨_, rfl, _⟩ := h; rfl; done) | (obtain ⟨_, _, rfl, _⟩ := h; rfl; done) | (obtain ⟨_, _, _, rfl, _⟩ := h; rfl; done) | (obtain ⟨_, _, _, _, rfl, _⟩ := h; rfl; done) | (obtain ⟨_, _, _, _, _, rfl, _⟩ := h; rfl; done) | (obtain ⟨_, _, _, _, _, _, rfl, _⟩ := h; rfl; done) | (obtain ⟨_, _, _, _, _, _, _, rfl, _⟩ := h; rfl; done) | (obtain ⟨_, _, _, _, _, _, _, _, rfl, _⟩ := h; rfl; done) | (obtain ⟨_, _, _, _, _, _, _, _, _, rfl, _⟩ := h; rfl; done) | (obtain ⟨_, _, _, _, _, _, _, _, _, _, rfl, _⟩ := h; rfl; done) | (rcases h with ⟨rfl | rfl, _⟩ <;> rfl) | (rcases h with ⟨rfl | rfl | rfl, _⟩ <;> rfl))
def fn0 : List He.DefD := [dd_is_whole, dd_want_letter, dd_want_counts, dd_is_joint, dd_leaves_fit, dd_order_fits, dd_ups_fit, dd_row_right, dd_want_row, dd_Making___init__, dd_Making_many, dd_Making_place_least, dd_Making_join, dd_made_row, dd_take_least, dd_least_of, dd_least_sum, dd_counts_in, dd_sum_of, dd__law_pool]
def fn1 : List He.DefD := [dd__law_take, dd__law_one, dd__law_alphabet, dd__law_letters, dd__law_counts, dd__law_counted, dd__law_least, dd__law_made, dd__law_tuple, dd__law_told, dd__law_made_right, dd__law_fault_right, dd__law_right, dd_law]
def fnAll : List He.DefD := fn0 ++ fn1
def fa0 : List He.Fa := [.cls "Making", .free "all", .free "bool", .free "enumerate", .free "int", .free "isinstance", .free "len", .free "max", .free "min", .free "range", .free "set", .free "sorted", .free "sum", .free "tuple", .glo "BadCount", .glo "BadLetter", .glo "Refused", .int "ESCAPE" (256), .int "MOST_COUNT" (1000000), .int "MOST_JOINTS" (513)]
def fa1 : List He.Fa := [.int "PAIR" (-1), .noat "Making" "leaves", .noat "Making" "pairs", .noat "Making" "row", .glo "is_whole", .glo "want_letter", .glo "want_counts", .glo "is_joint", .glo "leaves_fit", .glo "order_fits", .glo "ups_fit", .glo "row_right", .glo "want_row", .glo "Making", .mkr "Making", .meth "Making" "many", .meth "Making" "place_least", .meth "Making" "join", .glo "made_row", .glo "take_least"]
def fa2 : List He.Fa := [.glo "least_of", .glo "least_sum", .glo "counts_in", .glo "sum_of", .glo "_law_pool", .glo "_law_take", .glo "_law_one", .glo "_law_alphabet", .glo "_law_letters", .glo "_law_counts", .glo "_law_counted", .glo "_law_least", .glo "_law_made", .glo "_law_tuple", .glo "_law_told", .glo "_law_made_right", .glo "_law_fault_right", .glo "_law_right", .glo "law", .free "super"]
def faAll : List He.Fa := fa0 ++ fa1 ++ fa2
def nm0 : List PySem.Str := ["Refused", "BadLetter", "BadCount", "BadRow", "ESCAPE", "MOST_COUNT", "is_whole", "want_letter", "want_counts", "PAIR", "MOST_JOINTS", "is_joint", "leaves_fit", "order_fits", "ups_fit", "row_right", "want_row", "Making", "made_row", "take_least"]
def nm1 : List PySem.Str := ["least_of", "least_sum", "counts_in", "sum_of", "_law_pool", "_law_take", "_law_one", "_law_alphabet", "_law_letters", "_law_counts", "_law_counted", "_law_least", "_law_made", "_law_tuple", "_law_told", "_law_made_right", "_law_fault_right", "_law_right"]
def fxAll : List (PySem.W.Frag → Bool) := [(fun K => statB K), (fun K => rsB K "BadLetter" "Refused"), (fun K => rsB K "BadCount" "Refused"), (fun K => emB K "BadLetter" "BadLetter" true), (fun K => emB K "BadCount" "BadLetter" false), (fun K => emB K "BadCount" "BadCount" true), (fun K => gdB K "BadLetter"), (fun K => gdB K "BadCount")]
abbrev FILE : Str := PySem.Challenge.pw_leastsofar_k03_rows_made.main.file
def nmAll : List PySem.Str := nm0 ++ nm1

abbrev clOf (K : PySem.W.Frag) : Str → Addr := fun x => He.ga K x
set_option maxHeartbeats 0 in
theorem join {P : Program} {w : World} {K : PySem.W.Frag} {h : Heap} {mg : Str → Option Value} (X : K.In h) (G : h.Ns mainGlobals mg) (c : SaysX FILE faAll fnAll fxAll [dd_sup] K) (hFile : P.main.file = FILE) (hTop : (P.main.scope.names.lookup ("super" : Str)).isSome = false) :
    ∃ fd : FuncData, (∀ (s : Shared) (v : Value), BindsTo s fd ⟨[v], []⟩ [("script", v)]) ∧ ∀ base : Heap, FnOk P w K mg base (L2.CX P w) 9 (He.ga K "law") fd ["script"] (spD K (P_law (clOf K))) := by
  have hf : HF K mg (clOf K) := ⟨He.cls_ok (c.d.fact 0 rfl), He.free_ok X G (c.d.fact 1 rfl), He.free_ok X G (c.d.fact 2 rfl), He.free_ok X G (c.d.fact 3 rfl), He.free_ok X G (c.d.fact 4 rfl), He.free_ok X G (c.d.fact 5 rfl), He.free_ok X G (c.d.fact 6 rfl), He.free_ok X G (c.d.fact 7 rfl), He.free_ok X G (c.d.fact 8 rfl), He.free_ok X G (c.d.fact 9 rfl), He.free_ok X G (c.d.fact 10 rfl), He.free_ok X G (c.d.fact 11 rfl), He.free_ok X G (c.d.fact 12 rfl), He.free_ok X G (c.d.fact 13 rfl), He.glo_ok X G (c.d.fact 14 rfl), He.glo_ok X G (c.d.fact 15 rfl), He.glo_ok X G (c.d.fact 16 rfl), He.int_ok X G (c.d.fact 17 rfl), He.int_ok X G (c.d.fact 18 rfl), He.int_ok X G (c.d.fact 19 rfl), He.int_ok X G (c.d.fact 20 rfl), He.noat_ok (c.d.fact 21 rfl), He.noat_ok (c.d.fact 22 rfl), He.noat_ok (c.d.fact 23 rfl)⟩
  obtain ⟨fd_is_whole, F_is_whole⟩ := c.d.def_ 0 (d := dd_is_whole) rfl
  obtain ⟨fd_want_letter, F_want_letter⟩ := c.d.def_ 1 (d := dd_want_letter) rfl
  obtain ⟨fd_want_counts, F_want_counts⟩ := c.d.def_ 2 (d := dd_want_counts) rfl
  obtain ⟨fd_is_joint, F_is_joint⟩ := c.d.def_ 3 (d := dd_is_joint) rfl
  obtain ⟨fd_leaves_fit, F_leaves_fit⟩ := c.d.def_ 4 (d := dd_leaves_fit) rfl
  obtain ⟨fd_order_fits, F_order_fits⟩ := c.d.def_ 5 (d := dd_order_fits) rfl
  obtain ⟨fd_ups_fit, F_ups_fit⟩ := c.d.def_ 6 (d := dd_ups_fit) rfl
  obtain ⟨fd_row_right, F_row_right⟩ := c.d.def_ 7 (d := dd_row_right) rfl
  obtain ⟨fd_want_row, F_want_row⟩ := c.d.def_ 8 (d := dd_want_row) rfl
  obtain ⟨fd_Making___init__, F_Making___init__⟩ := c.d.def_ 9 (d := dd_Making___init__) rfl
  obtain ⟨fd_Making_many, F_Making_many⟩ := c.d.def_ 10 (d := dd_Making_many) rfl
  obtain ⟨fd_Making_place_least, F_Making_place_least⟩ := c.d.def_ 11 (d := dd_Making_place_least) rfl
  obtain ⟨fd_Making_join, F_Making_join⟩ := c.d.def_ 12 (d := dd_Making_join) rfl
  obtain ⟨fd_made_row, F_made_row⟩ := c.d.def_ 13 (d := dd_made_row) rfl
  obtain ⟨fd_take_least, F_take_least⟩ := c.d.def_ 14 (d := dd_take_least) rfl
  obtain ⟨fd_least_of, F_least_of⟩ := c.d.def_ 15 (d := dd_least_of) rfl
  obtain ⟨fd_least_sum, F_least_sum⟩ := c.d.def_ 16 (d := dd_least_sum) rfl
  obtain ⟨fd_counts_in, F_counts_in⟩ := c.d.def_ 17 (d := dd_counts_in) rfl
  obtain ⟨fd_sum_of, F_sum_of⟩ := c.d.def_ 18 (d := dd_sum_of) rfl
  obtain ⟨fd__law_pool, F__law_pool⟩ := c.d.def_ 19 (d := dd__law_pool) rfl
  obtain ⟨fd__law_take, F__law_take⟩ := c.d.def_ 20 (d := dd__law_take) rfl
  obtain ⟨fd__law_one, F__law_one⟩ := c.d.def_ 21 (d := dd__law_one) rfl
  obtain ⟨fd__law_alphabet, F__law_alphabet⟩ := c.d.def_ 22 (d := dd__law_alphabet) rfl
  obtain ⟨fd__law_letters, F__law_letters⟩ := c.d.def_ 23 (d := dd__law_letters) rfl
  obtain ⟨fd__law_counts, F__law_counts⟩ := c.d.def_ 24 (d := dd__law_counts) rfl
  obtain ⟨fd__law_counted, F__law_counted⟩ := c.d.def_ 25 (d := dd__law_counted) rfl
  obtain ⟨fd__law_least, F__law_least⟩ := c.d.def_ 26 (d := dd__law_least) rfl
  obtain ⟨fd__law_made, F__law_made⟩ := c.d.def_ 27 (d := dd__law_made) rfl
  obtain ⟨fd__law_tuple, F__law_tuple⟩ := c.d.def_ 28 (d := dd__law_tuple) rfl
  obtain ⟨fd__law_told, F__law_told⟩ := c.d.def_ 29 (d := dd__law_told) rfl
  obtain ⟨fd__law_made_right, F__law_made_right⟩ := c.d.def_ 30 (d := dd__law_made_right) rfl
  obtain ⟨fd__law_fault_right, F__law_fault_right⟩ := c.d.def_ 31 (d := dd__law_fault_right) rfl
  obtain ⟨fd__law_right, F__law_right⟩ := c.d.def_ 32 (d := dd__law_right) rfl
  obtain ⟨fd_law, F_law⟩ := c.d.def_ 33 (d := dd_law) rfl
  obtain ⟨es, os⟩ := c.s 0 (d := dd_sup) rfl
  obtain ⟨cc, cda, fd_s, G_s⟩ := SuD.at (P := P) es os hFile (He.free_ok X G (c.d.fact 59 rfl)) (of_decide_eq_true (c.x 0 (f := fun K => statB K) rfl))
  have b_s : Binds K fd_s ["self", "what"] [] := by
    obtain ⟨_, _, _, _, _, e⟩ := G_s.fdq
    rw [e]
    exact Binds.all fun us hl => match us, hl with | [_, _], _ => rfl
  have emd : EmD (emOf K) (gdOf K) (clOf K) := ⟨emB_ok (c.x 3 (f := fun K => emB K "BadLetter" "BadLetter" true) rfl), emB_ok (c.x 4 (f := fun K => emB K "BadCount" "BadLetter" false) rfl), emB_ok (c.x 5 (f := fun K => emB K "BadCount" "BadCount" true) rfl), gdB_ok (c.x 6 (f := fun K => gdB K "BadLetter") rfl), gdB_ok (c.x 7 (f := fun K => gdB K "BadCount") rfl)⟩
  have b := FunD.bindsA (ps := ["script"]) F_law fun _ _ _ _ _ _ us hl => match us, hl with | [_], _ => rfl
  refine ⟨fd_law, fun s v => b s [v] rfl, fun base => ?_⟩
  have o_s : FnOk P w K mg base (L2.CX P w) 1 (He.fAd K dd_sup.at_) fd_s ["self", "what"] (spSup K (He.ga K "Refused")) := fn_super G_s rfl (NdefX.nscope_by (by decide +kernel)) (by decide +kernel) (by decide +kernel) rfl (fun _ => rfl) rfl hTop
  have r_BadLetter : RsOk P w K mg base 1 "BadLetter" (clOf K "BadLetter") (clOf K "Refused") := rsB_ok X G (c.x 1 (f := fun K => rsB K "BadLetter" "Refused") rfl) b_s o_s
  have r_BadCount : RsOk P w K mg base 1 "BadCount" (clOf K "BadCount") (clOf K "Refused") := rsB_ok X G (c.x 2 (f := fun K => rsB K "BadCount" "Refused") rfl) b_s o_s
  have o_is_whole : FnOk P w K mg base (L2.CX P w) 1 (He.fAd K dd_is_whole.at_) fd_is_whole ["thing"] (spD K (P_is_whole (clOf K))) := fn_ok F_is_whole sc_is_whole (len_is_whole (clOf K)) (fun cdv A outer s H E hr => d_is_whole hf  hr) (h_is_whole (clOf K))
  have c_is_whole : DefOk P w K mg base 1 "is_whole" ["thing"] (P_is_whole (clOf K)) := DefOk.mk' (He.glo_ok X G (c.d.fact 24 rfl)) F_is_whole (fun _ _ _ _ _ _ us hl => match us, hl with | [_], _ => rfl) o_is_whole
  have o_leaves_fit : FnOk P w K mg base (L2.CX P w) 1 (He.fAd K dd_leaves_fit.at_) fd_leaves_fit ["row"] (spD K (P_leaves_fit (clOf K))) := fn_ok F_leaves_fit sc_leaves_fit (len_leaves_fit (clOf K)) (fun cdv A outer s H E hr => d_leaves_fit hf  hr) (h_leaves_fit (clOf K))
  have c_leaves_fit : DefOk P w K mg base 1 "leaves_fit" ["row"] (P_leaves_fit (clOf K)) := DefOk.mk' (He.glo_ok X G (c.d.fact 28 rfl)) F_leaves_fit (fun _ _ _ _ _ _ us hl => match us, hl with | [_], _ => rfl) o_leaves_fit
  have o_order_fits : FnOk P w K mg base (L2.CX P w) 1 (He.fAd K dd_order_fits.at_) fd_order_fits ["row"] (spD K (P_order_fits (clOf K))) := fn_ok F_order_fits sc_order_fits (len_order_fits (clOf K)) (fun cdv A outer s H E hr => d_order_fits hf  hr) (h_order_fits (clOf K))
  have c_order_fits : DefOk P w K mg base 1 "order_fits" ["row"] (P_order_fits (clOf K)) := DefOk.mk' (He.glo_ok X G (c.d.fact 29 rfl)) F_order_fits (fun _ _ _ _ _ _ us hl => match us, hl with | [_], _ => rfl) o_order_fits
  have o_ups_fit : FnOk P w K mg base (L2.CX P w) 1 (He.fAd K dd_ups_fit.at_) fd_ups_fit ["row"] (spD K (P_ups_fit (clOf K))) := fn_ok F_ups_fit sc_ups_fit (len_ups_fit (clOf K)) (fun cdv A outer s H E hr => d_ups_fit hf  hr) (h_ups_fit (clOf K))
  have c_ups_fit : DefOk P w K mg base 1 "ups_fit" ["row"] (P_ups_fit (clOf K)) := DefOk.mk' (He.glo_ok X G (c.d.fact 30 rfl)) F_ups_fit (fun _ _ _ _ _ _ us hl => match us, hl with | [_], _ => rfl) o_ups_fit
  have o_Making___init__ : FnOk P w K mg base (L2.CX P w) 1 (He.fAd K dd_Making___init__.at_) fd_Making___init__ ["self", "leaves"] (spD K (P_Making___init__ (clOf K))) := fn_ok F_Making___init__ sc_Making___init__ (len_Making___init__ (clOf K)) (fun cdv A outer s H E hr => d_Making___init__ hf  hr) (h_Making___init__ (clOf K))
  have n_Making : MakeOk P w K mg base 1 "Making" (clOf K "Making") ["self", "leaves"] (P_Making___init__ (clOf K)) := MakeOk.mk' (He.glo_ok X G (c.d.fact 33 rfl)) (He.mkr_ok (c.d.fact 34 rfl)) F_Making___init__ (fun _ _ _ _ _ _ us hl => match us, hl with | [_, _], _ => rfl) o_Making___init__
  have o_Making_many : FnOk P w K mg base (L2.CX P w) 1 (He.fAd K dd_Making_many.at_) fd_Making_many ["self"] (spD K (P_Making_many (clOf K))) := fn_ok F_Making_many sc_Making_many (len_Making_many (clOf K)) (fun cdv A outer s H E hr => d_Making_many hf  hr) (h_Making_many (clOf K))
  have m_Making_many : MethOk P w K mg base 1 (clOf K "Making") "many" ["self"] (P_Making_many (clOf K)) := MethOk.mk' (He.meth_ok (c.d.fact 35 rfl)) F_Making_many (fun _ _ _ _ _ _ us hl => match us, hl with | [_], _ => rfl) o_Making_many
  have o_Making_place_least : FnOk P w K mg base (L2.CX P w) 1 (He.fAd K dd_Making_place_least.at_) fd_Making_place_least ["self"] (spD K (P_Making_place_least (clOf K))) := fn_ok F_Making_place_least sc_Making_place_least (len_Making_place_least (clOf K)) (fun cdv A outer s H E hr => d_Making_place_least hf  hr) (h_Making_place_least (clOf K))
  have m_Making_place_least : MethOk P w K mg base 1 (clOf K "Making") "place_least" ["self"] (P_Making_place_least (clOf K)) := MethOk.mk' (He.meth_ok (c.d.fact 36 rfl)) F_Making_place_least (fun _ _ _ _ _ _ us hl => match us, hl with | [_], _ => rfl) o_Making_place_least
  have o_take_least : FnOk P w K mg base (L2.CX P w) 1 (He.fAd K dd_take_least.at_) fd_take_least ["leaves", "pairs"] (spD K (P_take_least (clOf K))) := fn_ok F_take_least sc_take_least (len_take_least (clOf K)) (fun cdv A outer s H E hr => d_take_least hf  hr) (h_take_least (clOf K))
  have c_take_least : DefOk P w K mg base 1 "take_least" ["leaves", "pairs"] (P_take_least (clOf K)) := DefOk.mk' (He.glo_ok X G (c.d.fact 39 rfl)) F_take_least (fun _ _ _ _ _ _ us hl => match us, hl with | [_, _], _ => rfl) o_take_least
  have o__law_pool : FnOk P w K mg base (L2.CX P w) 1 (He.fAd K dd__law_pool.at_) fd__law_pool ["script", "k"] (spD K (P__law_pool (clOf K))) := fn_ok F__law_pool sc__law_pool (len__law_pool (clOf K)) (fun cdv A outer s H E hr => d__law_pool hf  hr) (h__law_pool (clOf K))
  have c__law_pool : DefOk P w K mg base 1 "_law_pool" ["script", "k"] (P__law_pool (clOf K)) := DefOk.mk' (He.glo_ok X G (c.d.fact 44 rfl)) F__law_pool (fun _ _ _ _ _ _ us hl => match us, hl with | [_, _], _ => rfl) o__law_pool
  have o__law_take : FnOk P w K mg base (L2.CX P w) 1 (He.fAd K dd__law_take.at_) fd__law_take ["source", "top"] (spD K (P__law_take (clOf K))) := fn_ok F__law_take sc__law_take (len__law_take (clOf K)) (fun cdv A outer s H E hr => d__law_take hf  hr) (h__law_take (clOf K))
  have c__law_take : DefOk P w K mg base 1 "_law_take" ["source", "top"] (P__law_take (clOf K)) := DefOk.mk' (He.glo_ok X G (c.d.fact 45 rfl)) F__law_take (fun _ _ _ _ _ _ us hl => match us, hl with | [_, _], _ => rfl) o__law_take
  have o__law_counted : FnOk P w K mg base (L2.CX P w) 1 (He.fAd K dd__law_counted.at_) fd__law_counted ["letters"] (spD K (P__law_counted (clOf K))) := fn_ok F__law_counted sc__law_counted (len__law_counted (clOf K)) (fun cdv A outer s H E hr => d__law_counted hf  hr) (h__law_counted (clOf K))
  have c__law_counted : DefOk P w K mg base 1 "_law_counted" ["letters"] (P__law_counted (clOf K)) := DefOk.mk' (He.glo_ok X G (c.d.fact 50 rfl)) F__law_counted (fun _ _ _ _ _ _ us hl => match us, hl with | [_], _ => rfl) o__law_counted
  have o__law_least : FnOk P w K mg base (L2.CX P w) 1 (He.fAd K dd__law_least.at_) fd__law_least ["counts"] (spD K (P__law_least (clOf K))) := fn_ok F__law_least sc__law_least (len__law_least (clOf K)) (fun cdv A outer s H E hr => d__law_least hf  hr) (h__law_least (clOf K))
  have c__law_least : DefOk P w K mg base 1 "_law_least" ["counts"] (P__law_least (clOf K)) := DefOk.mk' (He.glo_ok X G (c.d.fact 51 rfl)) F__law_least (fun _ _ _ _ _ _ us hl => match us, hl with | [_], _ => rfl) o__law_least
  have o__law_made : FnOk P w K mg base (L2.CX P w) 1 (He.fAd K dd__law_made.at_) fd__law_made ["counts"] (spD K (P__law_made (clOf K))) := fn_ok F__law_made sc__law_made (len__law_made (clOf K)) (fun cdv A outer s H E hr => d__law_made hf  hr) (h__law_made (clOf K))
  have c__law_made : DefOk P w K mg base 1 "_law_made" ["counts"] (P__law_made (clOf K)) := DefOk.mk' (He.glo_ok X G (c.d.fact 52 rfl)) F__law_made (fun _ _ _ _ _ _ us hl => match us, hl with | [_], _ => rfl) o__law_made
  have o__law_tuple : FnOk P w K mg base (L2.CX P w) 1 (He.fAd K dd__law_tuple.at_) fd__law_tuple ["row"] (spD K (P__law_tuple (clOf K))) := fn_ok F__law_tuple sc__law_tuple (len__law_tuple (clOf K)) (fun cdv A outer s H E hr => d__law_tuple hf  hr) (h__law_tuple (clOf K))
  have c__law_tuple : DefOk P w K mg base 1 "_law_tuple" ["row"] (P__law_tuple (clOf K)) := DefOk.mk' (He.glo_ok X G (c.d.fact 53 rfl)) F__law_tuple (fun _ _ _ _ _ _ us hl => match us, hl with | [_], _ => rfl) o__law_tuple
  have o_is_joint : FnOk P w K mg base (L2.CX P w) 2 (He.fAd K dd_is_joint.at_) fd_is_joint ["thing"] (spD K (P_is_joint (clOf K))) := fn_ok F_is_joint sc_is_joint (len_is_joint (clOf K)) (fun cdv A outer s H E hr => d_is_joint hf c_is_whole hr) (h_is_joint (clOf K))
  have c_is_joint : DefOk P w K mg base 2 "is_joint" ["thing"] (P_is_joint (clOf K)) := DefOk.mk' (He.glo_ok X G (c.d.fact 27 rfl)) F_is_joint (fun _ _ _ _ _ _ us hl => match us, hl with | [_], _ => rfl) o_is_joint
  have o_Making_join : FnOk P w K mg base (L2.CX P w) 2 (He.fAd K dd_Making_join.at_) fd_Making_join ["self"] (spD K (P_Making_join (clOf K))) := fn_ok F_Making_join sc_Making_join (len_Making_join (clOf K)) (fun cdv A outer s H E hr => d_Making_join hf m_Making_place_least hr) (h_Making_join (clOf K))
  have m_Making_join : MethOk P w K mg base 2 (clOf K "Making") "join" ["self"] (P_Making_join (clOf K)) := MethOk.mk' (He.meth_ok (c.d.fact 37 rfl)) F_Making_join (fun _ _ _ _ _ _ us hl => match us, hl with | [_], _ => rfl) o_Making_join
  have o_least_of : FnOk P w K mg base (L2.CX P w) 2 (He.fAd K dd_least_of.at_) fd_least_of ["numbers"] (spD K (P_least_of (clOf K))) := fn_ok F_least_of sc_least_of (len_least_of (clOf K)) (fun cdv A outer s H E hr => d_least_of hf c_take_least hr) (h_least_of (clOf K))
  have c_least_of : DefOk P w K mg base 2 "least_of" ["numbers"] (P_least_of (clOf K)) := DefOk.mk' (He.glo_ok X G (c.d.fact 40 rfl)) F_least_of (fun _ _ _ _ _ _ us hl => match us, hl with | [_], _ => rfl) o_least_of
  have o__law_one : FnOk P w K mg base (L2.CX P w) 2 (He.fAd K dd__law_one.at_) fd__law_one ["source", "things"] (spD K (P__law_one (clOf K))) := fn_ok F__law_one sc__law_one (len__law_one (clOf K)) (fun cdv A outer s H E hr => d__law_one hf c__law_take hr) (h__law_one (clOf K))
  have c__law_one : DefOk P w K mg base 2 "_law_one" ["source", "things"] (P__law_one (clOf K)) := DefOk.mk' (He.glo_ok X G (c.d.fact 46 rfl)) F__law_one (fun _ _ _ _ _ _ us hl => match us, hl with | [_, _], _ => rfl) o__law_one
  have o_want_letter : FnOk P w K mg base (L2.CX P w) 3 (He.fAd K dd_want_letter.at_) fd_want_letter ["letter"] (spD K (P_want_letter (clOf K))) := fn_ok F_want_letter sc_want_letter (len_want_letter (clOf K)) (fun cdv A outer s H E hr => d_want_letter hf r_BadLetter hr) (h_want_letter (clOf K))
  have c_want_letter : DefOk P w K mg base 3 "want_letter" ["letter"] (P_want_letter (clOf K)) := DefOk.mk' (He.glo_ok X G (c.d.fact 25 rfl)) F_want_letter (fun _ _ _ _ _ _ us hl => match us, hl with | [_], _ => rfl) o_want_letter
  have o_row_right : FnOk P w K mg base (L2.CX P w) 3 (He.fAd K dd_row_right.at_) fd_row_right ["row"] (spD K (P_row_right (clOf K))) := fn_ok F_row_right sc_row_right (len_row_right (clOf K)) (fun cdv A outer s H E hr => d_row_right hf c_ups_fit c_order_fits c_leaves_fit c_is_joint hr) (h_row_right (clOf K))
  have c_row_right : DefOk P w K mg base 3 "row_right" ["row"] (P_row_right (clOf K)) := DefOk.mk' (He.glo_ok X G (c.d.fact 31 rfl)) F_row_right (fun _ _ _ _ _ _ us hl => match us, hl with | [_], _ => rfl) o_row_right
  have o__law_alphabet : FnOk P w K mg base (L2.CX P w) 3 (He.fAd K dd__law_alphabet.at_) fd__law_alphabet ["source", "most"] (spD K (P__law_alphabet (clOf K))) := fn_ok F__law_alphabet sc__law_alphabet (len__law_alphabet (clOf K)) (fun cdv A outer s H E hr => d__law_alphabet hf c__law_take c__law_one hr) (h__law_alphabet (clOf K))
  have c__law_alphabet : DefOk P w K mg base 3 "_law_alphabet" ["source", "most"] (P__law_alphabet (clOf K)) := DefOk.mk' (He.glo_ok X G (c.d.fact 47 rfl)) F__law_alphabet (fun _ _ _ _ _ _ us hl => match us, hl with | [_, _], _ => rfl) o__law_alphabet
  have o_want_counts : FnOk P w K mg base (L2.CX P w) 4 (He.fAd K dd_want_counts.at_) fd_want_counts ["counts"] (spD K (P_want_counts (clOf K))) := fn_ok F_want_counts sc_want_counts (len_want_counts (clOf K)) (fun cdv A outer s H E hr => d_want_counts hf c_want_letter r_BadCount hr) (h_want_counts (clOf K))
  have c_want_counts : DefOk P w K mg base 4 "want_counts" ["counts"] (P_want_counts (clOf K)) := DefOk.mk' (He.glo_ok X G (c.d.fact 26 rfl)) F_want_counts (fun _ _ _ _ _ _ us hl => match us, hl with | [_], _ => rfl) o_want_counts
  have o_want_row : FnOk P w K mg base (L2.CX P w) 4 (He.fAd K dd_want_row.at_) fd_want_row ["row"] (spD K (P_want_row (clOf K))) := fn_ok F_want_row sc_want_row (len_want_row (clOf K)) (fun cdv A outer s H E hr => d_want_row hf c_row_right hr) (h_want_row (clOf K))
  have c_want_row : DefOk P w K mg base 4 "want_row" ["row"] (P_want_row (clOf K)) := DefOk.mk' (He.glo_ok X G (c.d.fact 32 rfl)) F_want_row (fun _ _ _ _ _ _ us hl => match us, hl with | [_], _ => rfl) o_want_row
  have o__law_letters : FnOk P w K mg base (L2.CX P w) 4 (He.fAd K dd__law_letters.at_) fd__law_letters ["source", "most"] (spD K (P__law_letters (clOf K))) := fn_ok F__law_letters sc__law_letters (len__law_letters (clOf K)) (fun cdv A outer s H E hr => d__law_letters hf c__law_one c__law_take c__law_alphabet hr) (h__law_letters (clOf K))
  have c__law_letters : DefOk P w K mg base 4 "_law_letters" ["source", "most"] (P__law_letters (clOf K)) := DefOk.mk' (He.glo_ok X G (c.d.fact 48 rfl)) F__law_letters (fun _ _ _ _ _ _ us hl => match us, hl with | [_, _], _ => rfl) o__law_letters
  have o__law_counts : FnOk P w K mg base (L2.CX P w) 4 (He.fAd K dd__law_counts.at_) fd__law_counts ["source", "most"] (spD K (P__law_counts (clOf K))) := fn_ok F__law_counts sc__law_counts (len__law_counts (clOf K)) (fun cdv A outer s H E hr => d__law_counts hf c__law_alphabet c__law_take c__law_one hr) (h__law_counts (clOf K))
  have c__law_counts : DefOk P w K mg base 4 "_law_counts" ["source", "most"] (P__law_counts (clOf K)) := DefOk.mk' (He.glo_ok X G (c.d.fact 49 rfl)) F__law_counts (fun _ _ _ _ _ _ us hl => match us, hl with | [_, _], _ => rfl) o__law_counts
  have o_made_row : FnOk P w K mg base (L2.CX P w) 5 (He.fAd K dd_made_row.at_) fd_made_row ["counts"] (spD K (P_made_row (clOf K))) := fn_ok F_made_row sc_made_row (len_made_row (clOf K)) (fun cdv A outer s H E hr => d_made_row hf c_want_counts m_Making_place_least m_Making_many m_Making_join n_Making hr) (h_made_row (clOf K))
  have c_made_row : DefOk P w K mg base 5 "made_row" ["counts"] (P_made_row (clOf K)) := DefOk.mk' (He.glo_ok X G (c.d.fact 38 rfl)) F_made_row (fun _ _ _ _ _ _ us hl => match us, hl with | [_], _ => rfl) o_made_row
  have ck_made_row : KwOk P w K mg base 5 "made_row" ["counts"] (P_made_row (clOf K)) := KwOk.mk' (He.glo_ok X G (c.d.fact 38 rfl)) F_made_row (fun _ _ _ _ _ _ us hl => match us, hl with | [_], _ => rfl) o_made_row
  have o_least_sum : FnOk P w K mg base (L2.CX P w) 5 (He.fAd K dd_least_sum.at_) fd_least_sum ["counts"] (spD K (P_least_sum (clOf K))) := fn_ok F_least_sum sc_least_sum (len_least_sum (clOf K)) (fun cdv A outer s H E hr => d_least_sum hf c_least_of c_want_counts hr) (h_least_sum (clOf K))
  have c_least_sum : DefOk P w K mg base 5 "least_sum" ["counts"] (P_least_sum (clOf K)) := DefOk.mk' (He.glo_ok X G (c.d.fact 41 rfl)) F_least_sum (fun _ _ _ _ _ _ us hl => match us, hl with | [_], _ => rfl) o_least_sum
  have o_counts_in : FnOk P w K mg base (L2.CX P w) 5 (He.fAd K dd_counts_in.at_) fd_counts_in ["row"] (spD K (P_counts_in (clOf K))) := fn_ok F_counts_in sc_counts_in (len_counts_in (clOf K)) (fun cdv A outer s H E hr => d_counts_in hf c_want_row hr) (h_counts_in (clOf K))
  have c_counts_in : DefOk P w K mg base 5 "counts_in" ["row"] (P_counts_in (clOf K)) := DefOk.mk' (He.glo_ok X G (c.d.fact 42 rfl)) F_counts_in (fun _ _ _ _ _ _ us hl => match us, hl with | [_], _ => rfl) o_counts_in
  have o_sum_of : FnOk P w K mg base (L2.CX P w) 5 (He.fAd K dd_sum_of.at_) fd_sum_of ["row"] (spD K (P_sum_of (clOf K))) := fn_ok F_sum_of sc_sum_of (len_sum_of (clOf K)) (fun cdv A outer s H E hr => d_sum_of hf c_want_row hr) (h_sum_of (clOf K))
  have c_sum_of : DefOk P w K mg base 5 "sum_of" ["row"] (P_sum_of (clOf K)) := DefOk.mk' (He.glo_ok X G (c.d.fact 43 rfl)) F_sum_of (fun _ _ _ _ _ _ us hl => match us, hl with | [_], _ => rfl) o_sum_of
  have o__law_told : FnOk P w K mg base (L2.CX P w) 6 (He.fAd K dd__law_told.at_) fd__law_told ["counts"] (spD K (P__law_told (clOf K))) := fn_ok F__law_told sc__law_told (len__law_told (clOf K)) (fun cdv A outer s H E hr => d__law_told hf c_made_row hr) (h__law_told (clOf K) (emOf K) (gdOf K) emd)
  have c__law_told : DefOk P w K mg base 6 "_law_told" ["counts"] (P__law_told (clOf K)) := DefOk.mk' (He.glo_ok X G (c.d.fact 54 rfl)) F__law_told (fun _ _ _ _ _ _ us hl => match us, hl with | [_], _ => rfl) o__law_told
  have o__law_made_right : FnOk P w K mg base (L2.CX P w) 7 (He.fAd K dd__law_made_right.at_) fd__law_made_right ["counts"] (spD K (P__law_made_right (clOf K))) := fn_ok F__law_made_right sc__law_made_right (len__law_made_right (clOf K)) (fun cdv A outer s H E hr => d__law_made_right hf c_least_sum c_sum_of c_counts_in c_row_right c__law_told c__law_least c__law_tuple c__law_made ck_made_row hr) (h__law_made_right (clOf K))
  have c__law_made_right : DefOk P w K mg base 7 "_law_made_right" ["counts"] (P__law_made_right (clOf K)) := DefOk.mk' (He.glo_ok X G (c.d.fact 55 rfl)) F__law_made_right (fun _ _ _ _ _ _ us hl => match us, hl with | [_], _ => rfl) o__law_made_right
  have o__law_fault_right : FnOk P w K mg base (L2.CX P w) 7 (He.fAd K dd__law_fault_right.at_) fd__law_fault_right ["source", "counts"] (spD K (P__law_fault_right (clOf K))) := fn_ok F__law_fault_right sc__law_fault_right (len__law_fault_right (clOf K)) (fun cdv A outer s H E hr => d__law_fault_right hf c__law_told c__law_take c__law_one hr) (h__law_fault_right (clOf K))
  have c__law_fault_right : DefOk P w K mg base 7 "_law_fault_right" ["source", "counts"] (P__law_fault_right (clOf K)) := DefOk.mk' (He.glo_ok X G (c.d.fact 56 rfl)) F__law_fault_right (fun _ _ _ _ _ _ us hl => match us, hl with | [_, _], _ => rfl) o__law_fault_right
  have o__law_right : FnOk P w K mg base (L2.CX P w) 8 (He.fAd K dd__law_right.at_) fd__law_right ["source"] (spD K (P__law_right (clOf K))) := fn_ok F__law_right sc__law_right (len__law_right (clOf K)) (fun cdv A outer s H E hr => d__law_right hf c__law_made_right c__law_take c__law_fault_right c__law_counted c__law_letters c__law_counts hr) (h__law_right (clOf K))
  have c__law_right : DefOk P w K mg base 8 "_law_right" ["source"] (P__law_right (clOf K)) := DefOk.mk' (He.glo_ok X G (c.d.fact 57 rfl)) F__law_right (fun _ _ _ _ _ _ us hl => match us, hl with | [_], _ => rfl) o__law_right
  have o_law : FnOk P w K mg base (L2.CX P w) 9 (He.fAd K dd_law.at_) fd_law ["script"] (spD K (P_law (clOf K))) := fn_ok F_law sc_law (len_law (clOf K)) (fun cdv A outer s H E hr => d_law hf c_made_row c__law_right c__law_pool hr) (h_law (clOf K))
  exact o_law
theorem law_glo {K : PySem.W.Frag} {h : Heap} {mg : Str → Option Value} (X : K.In h) (G : h.Ns mainGlobals mg) (c : SaysX FILE faAll fnAll fxAll [dd_sup] K) : mg "law" = some (.ref (He.ga K "law")) := He.glo_ok X G (c.d.fact 58 rfl)
abbrev RR : PySem.W.OpenRow := PySem.W.OpenLaw.row PySem.Challenge.rw_leastsofar_k03_rows_made
abbrev hk : PySem.W.Hook := hookX 5 FILE faAll fnAll fxAll [dd_sup]
def ob (s : PySem.W.SharedT) : AlX := obX 5 FILE faAll fnAll fxAll [dd_sup] (HandSHeadRun.getT s)
theorem ob_eq (s : PySem.W.SharedT) : ob s = hk.obs s.abs := obX_eq (HandSHeadRun.getT_eq s)
theorem run (w : World) : HandSHeadRun.RunEq RR (PySem.W.view RR.prog [45]) hk ob 6000 nmAll w := by
  intro os
  kernel_rfl
end LS
open PySem PySem.W PySem.Calls PyProof.Rows
set_option maxHeartbeats 0 in
theorem PySem.Challenge.cw_leastsofar_k03_rows_made_holds : PySem.Challenge.rw_leastsofar_k03_rows_made.Holds := by
  w_on; o_law
  refine HandSHeadRun.head_any (r := LS.RR) (q := view LS.RR.prog [45]) (H := LS.hk) (ob := LS.ob) (M := 6000) (loose := LS.nmAll) (d := HandSHeadRun.topDef LS.RR.prog 45) (kwd := []) LS.ob_eq
    (by kernel_rfl) (fun s => by kernel_rfl) LS.run (by kernel_rfl) (by kernel_rfl) (by kernel_rfl) (by rfl) (by first | assumption | decide +kernel) (by decide +kernel) ⟨rfl, rfl, rfl, rfl, rfl, by decide +kernel⟩ ?hw ?hc
  case hw => w_witness2
  case hc =>
    refine DL.walk_w (l := PySem.Challenge.rw_leastsofar_k03_rows_made) (n := 63) (k := 9) (x := "script") rfl (by decide) (by kernel_rfl) ⟨rfl, by decide, by decide⟩ ?F
    intro w mg fa h Y G hmg0
    obtain ⟨K, KX, c⟩ := Y
    have hmg : mg ("law" : PySem.Str) = some (.ref fa) := by
      have e : (HandSHeadRun.topDef LS.RR.prog 45).name = ("law" : PySem.Str) := by kernel_rfl
      rw [← e]
      exact hmg0
    have e := hmg.symm.trans (LS.law_glo KX G c)
    cases e
    refine ⟨K, LS.P_law (LS.clOf K), KX, fun ns hl => ⟨ns, rfl, hl, rfl, fun _ => rfl⟩, LS.join KX G c rfl (by decide +kernel)⟩
