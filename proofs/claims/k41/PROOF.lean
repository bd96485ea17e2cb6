import PyProof.Rows.All
import Wide.All
import OpenK.AllK
import Wide.FinOn
import HandS.ForMost
import HandS.Lambda
import HandS.EndTab
import HandS.Wide
import HandS.Deep
import HandS.Flow
import HandS.Style
import HandS.TupAny
import HandS.Zip
import HandS.Star
import HandS.IsInst
import HandS.SortInts
import HandS.Conv
import HandS.DictComp
import HandS.Exc
import HandS.ExcOwn
import HandS.ExcIs
import HandS.TryOnly
import HandS.SortKw
import KE.KMinKey
import HandS.Iter
import HandS.WordsDict
import HandS.Head0
import HandS.Head1
import HandS.Head2
import HandS.HeadEnd
import HandS.HeadHook1
import HandS.HeadHook2
import HandS.HeadHook3
import HandS.HeadHook4
import HandS.HeadWalk
import HandS.SetFor
import HandS.Strs
import HandS.ExcField
import KE.KExcIs
import HandS.Text
import HandS.RaiseMore
import KE.KRevSl
import KE.KDictList
import HandS.EndBits
import HandS.ExcInit
import HandS.Nested
import KE.KSuper
import KE.KExcSuper
import HandS.Sort
import HandS.SortOrd
import KE.KSortTup
import KE.GoesMore
import PyProof.EnumMake
import PyProof.EnumFor
import HandS.TupMul
import HandS.TupLen
import KE.KStateDown
import PySem.Challenge.RW_lanesmeet_k41_fewest_gaps
set_option Elab.async false
set_option linter.all false
set_option maxRecDepth 100000
set_option maxHeartbeats 4000000
/-! A calculus of data over the hand layer: what an expression, a test, a statement makes of plain data. -/
namespace Fx
open PySem PySem.Spec PyProof.Rows L2

/-! ### data -/
inductive D where
  | non | bl (b : Bool) | int (i : Int) | str (s : Str)
  | tup (ds : List D) | lst (ds : List D) | dic (kvs : List (Key × D)) | raw (v : V)
  | exc (C : Addr) (fs : List (Str × D))

/-- an exception of the class at C lies at a, its dict at d -/
def ExO (C a : Addr) (d : Option Addr) : HO := .ext fun h => ∃ (o : Obj) (vs : Array Value), h.get? a = some o ∧ Zc (.ref C) d o ∧ o.data = .fields vs
mutual
/-- in the part G of the heap v stands for d -/
inductive Rp (G : Hp) : V → D → Prop
  | non : Rp G .non .non
  | bl (b : Bool) : Rp G (.bl b) (.bl b)
  | int (i : Int) : Rp G (.int i) (.int i)
  | str (s : Str) : Rp G (.str s) (.str s)
  | raw (v : V) : Rp G v (.raw v)
  | tup {a : Addr} {xs : List V} {ds : List D} : G a = some (.tup xs) → RpL G xs ds → Rp G (.ref a) (.tup ds)
  | lst {a : Addr} {xs : List V} {ds : List D} : G a = some (.lst xs) → RpL G xs ds → Rp G (.ref a) (.lst ds)
  | dic {a : Addr} {o : Obj} {kvs : List (Key × V)} {kds : List (Key × D)} : G a = some (.frz o (.dK kvs)) → RpK G kvs kds → Rp G (.ref a) (.dic kds)
  | exc0 {a C : Addr} : G a = some (ExO C a none) → Rp G (.ref a) (.exc C [])
  | exc1 {a C dd : Addr} {vs : List (Str × V)} {fs : List (Str × D)} : G a = some (ExO C a (some dd)) → G dd = some (.xd vs) → RpF G vs fs → Rp G (.ref a) (.exc C fs)
inductive RpL (G : Hp) : List V → List D → Prop
  | nil : RpL G [] []
  | cons {v : V} {vs : List V} {d : D} {ds : List D} : Rp G v d → RpL G vs ds → RpL G (v :: vs) (d :: ds)
inductive RpK (G : Hp) : List (Key × V) → List (Key × D) → Prop
  | nil : RpK G [] []
  | cons {k : Key} {v : V} {vs : List (Key × V)} {d : D} {ds : List (Key × D)} : Rp G v d → RpK G vs ds → RpK G ((k, v) :: vs) ((k, d) :: ds)
inductive RpF (G : Hp) : List (Str × V) → List (Str × D) → Prop
  | nil : RpF G [] []
  | cons {k : Str} {v : V} {vs : List (Str × V)} {d : D} {ds : List (Str × D)} : Rp G v d → RpF G vs ds → RpF G ((k, v) :: vs) ((k, d) :: ds)
end
mutual
theorem Rp.mono {G G' : Hp} (e : Same G G') : ∀ {v : V} {d : D}, Rp G v d → Rp G' v d
  | _, _, .non => .non
  | _, _, .bl b => .bl b
  | _, _, .int i => .int i
  | _, _, .str s => .str s
  | _, _, .raw v => .raw v
  | _, _, .tup h r => .tup (e _ _ h) (RpL.mono e r)
  | _, _, .lst h r => .lst (e _ _ h) (RpL.mono e r)
  | _, _, .dic h r => .dic (e _ _ h) (RpK.mono e r)
  | _, _, .exc0 h => .exc0 (e _ _ h)
  | _, _, .exc1 h h' r => .exc1 (e _ _ h) (e _ _ h') (RpF.mono e r)
theorem RpL.mono {G G' : Hp} (e : Same G G') : ∀ {vs : List V} {ds : List D}, RpL G vs ds → RpL G' vs ds
  | _, _, .nil => .nil
  | _, _, .cons h r => .cons (Rp.mono e h) (RpL.mono e r)
theorem RpK.mono {G G' : Hp} (e : Same G G') : ∀ {vs : List (Key × V)} {ds : List (Key × D)}, RpK G vs ds → RpK G' vs ds
  | _, _, .nil => .nil
  | _, _, .cons h r => .cons (Rp.mono e h) (RpK.mono e r)
theorem RpF.mono {G G' : Hp} (e : Same G G') : ∀ {vs : List (Str × V)} {ds : List (Str × D)}, RpF G vs ds → RpF G' vs ds
  | _, _, .nil => .nil
  | _, _, .cons h r => .cons (Rp.mono e h) (RpF.mono e r)
end
theorem RpF.lookup {G : Hp} {f : Str} {d : D} : ∀ {vs : List (Str × V)} {fs : List (Str × D)}, RpF G vs fs → fs.lookup f = some d → ∃ v, vs.lookup f = some v ∧ Rp G v d
  | _, _, .nil, e => by simp at e
  | _, _, .cons (k := k) h r, e => by
    rw [List.lookup_cons] at e ⊢
    cases q : f == k with
    | true => rw [q] at e; cases e; exact ⟨_, rfl, h⟩
    | false => rw [q] at e; exact RpF.lookup r e
/-- the dict of an exception -/
def XDat (G : Hp) : Option Addr → List (Str × D) → Prop
  | none, fs => fs = []
  | some a, fs => ∃ vs, G a = some (.xd vs) ∧ RpF G vs fs
theorem XDat.mono {G G' : Hp} (e : Same G G') {d : Option Addr} {fs : List (Str × D)} (x : XDat G d fs) : XDat G' d fs := by
  cases d with
  | none => exact x
  | some a =>
    obtain ⟨vs, h, r⟩ := x
    exact ⟨vs, e _ _ h, r.mono e⟩
theorem XDat.rp {G : Hp} {a C : Addr} {d : Option Addr} {fs : List (Str × D)} (x : XDat G d fs) (h : G a = some (ExO C a d)) : Rp G (.ref a) (.exc C fs) := by
  cases d with
  | none =>
    have x : fs = [] := x
    rw [x]
    exact .exc0 h
  | some b =>
    obtain ⟨vs, h', r⟩ := x
    exact .exc1 h h' r
theorem noTb_ext (φ : Heap → Prop) : (∀ ps, HO.ext φ ≠ .tbl ps) := fun _ z => by cases z
theorem RpL.len {G : Hp} : ∀ {vs : List V} {ds : List D}, RpL G vs ds → vs.length = ds.length
  | _, _, .nil => rfl
  | _, _, .cons _ r => congrArg (· + 1) (RpL.len r)
theorem RpL.app {G : Hp} : ∀ {vs ws : List V} {ds es : List D}, RpL G vs ds → RpL G ws es → RpL G (vs ++ ws) (ds ++ es)
  | _, _, _, _, .nil, s => s
  | _, _, _, _, .cons h r, s => .cons h (RpL.app r s)
theorem RpL.get {G : Hp} : ∀ {vs : List V} {ds : List D} {i : Nat} {d : D}, RpL G vs ds → ds[i]? = some d → ∃ v, vs[i]? = some v ∧ Rp G v d
  | _, _, _, _, .nil, e => by simp at e
  | _, _, 0, _, .cons h _, e => by simp at e; subst e; exact ⟨_, rfl, h⟩
  | _, _, i + 1, d, .cons _ r, e => by
    obtain ⟨v, h1, h2⟩ := RpL.get (i := i) r (by simpa using e)
    exact ⟨v, by simpa using h1, h2⟩
theorem RpL.getV {G : Hp} : ∀ {vs : List V} {ds : List D} {i : Nat} {v : V}, RpL G vs ds → vs[i]? = some v → ∃ d, ds[i]? = some d ∧ Rp G v d
  | _, _, _, _, .nil, e => by simp at e
  | _, _, 0, _, .cons h _, e => by simp at e; subst e; exact ⟨_, rfl, h⟩
  | _, _, i + 1, d, .cons _ r, e => by
    obtain ⟨v, h1, h2⟩ := RpL.getV (i := i) r (by simpa using e)
    exact ⟨v, by simpa using h1, h2⟩
theorem RpL.take {G : Hp} : ∀ {vs : List V} {ds : List D} (n : Nat), RpL G vs ds → RpL G (vs.take n) (ds.take n)
  | _, _, 0, _ => .nil
  | _, _, _ + 1, .nil => .nil
  | _, _, n + 1, .cons h r => .cons h (RpL.take n r)
theorem RpL.drop {G : Hp} : ∀ {vs : List V} {ds : List D} (n : Nat), RpL G vs ds → RpL G (vs.drop n) (ds.drop n)
  | _, _, 0, r => r
  | _, _, _ + 1, .nil => .nil
  | _, _, n + 1, .cons _ r => RpL.drop n r
theorem RpL.set {G : Hp} {v : V} {d : D} (h : Rp G v d) : ∀ {vs : List V} {ds : List D} (n : Nat), RpL G vs ds → RpL G (vs.set n v) (ds.set n d)
  | _, _, _, .nil => .nil
  | _, _, 0, .cons _ r => .cons h r
  | _, _, n + 1, .cons q r => .cons q (RpL.set h n r)
theorem RpL.ints {G : Hp} : ∀ {vs : List V} {ns : List Int}, RpL G vs (ns.map D.int) → vs = ns.map V.int
  | _, [], .nil => rfl
  | _, n :: ns, .cons h r => by
    cases h
    rw [RpL.ints r]; rfl
theorem RpL.of_ints {G : Hp} : ∀ (ns : List Int), RpL G (ns.map V.int) (ns.map D.int)
  | [] => .nil
  | n :: ns => .cons (.int n) (RpL.of_ints ns)
theorem RpL.bls {G : Hp} : ∀ {vs : List V} {ns : List Bool}, RpL G vs (ns.map D.bl) → vs = ns.map V.bl
  | _, [], .nil => rfl
  | _, n :: ns, .cons h r => by
    cases h
    rw [RpL.bls r]; rfl

/-! ### worlds: what may change, what holds of it -/
def NoTb (o : HO) : Prop := ∀ ps, o ≠ .tbl ps
/-- nothing is tracked at a, but a table perhaps -/
def Nf (H : Hp) (a : Addr) : Prop := ∀ o, H a = some o → ¬ NoTb o
theorem nf_none {H : Hp} {a : Addr} (h : H a = none) : Nf H a := fun o e => by rw [h] at e; cases e
theorem nf_no {H : Hp} {a : Addr} {o : HO} (h : H a = some o) (n : NoTb o) : ¬ Nf H a := fun z => z o h n
structure Wld (T : List (Addr × Str)) where
  M : Addr → Prop
  J : Nat → Hp → Prop
  tabs : ∀ {c : Nat} {H : Hp}, J c H → LamX.Tabs T H
  mono : ∀ {c c' : Nat} {H : Hp}, c ≤ c' → J c H → J c' H
  pure : ∀ {c : Nat} {H H' : Hp}, J c H → (∀ a o, H a = some o → NoTb o → H' a = some o) → LamX.Tabs T H' → J c H'
  mtr : ∀ {c : Nat} {H : Hp} {a : Addr}, J c H → M a → ¬ Nf H a
  updl : ∀ {c : Nat} {H : Hp} {l : Addr} {xs ys : List V}, J c H → ¬ M l → H l = some (.lst xs) → J c (upd H l (.lst ys))
  upddk : ∀ {c : Nat} {H : Hp} {l : Addr} {xs : List (Key × V)} {o : HO}, J c H → ¬ M l → H l = some (.dK xs) → J c (upd H l o)

theorem same_new {H : Hp} {p : Addr} (h : H p = none) (o : HO) : Same H (upd H p o) := fun b u q => by rw [upd_ne (ne_of_none q h)]; exact q
theorem tabs_same {T : List (Addr × Str)} {H H' : Hp} (t : LamX.Tabs T H) (e : Same H H') : LamX.Tabs T H' := t.ext e
theorem tabs_upd {T : List (Addr × Str)} {H : Hp} {l : Addr} {xs ys : List V} (t : LamX.Tabs T H) (hl : H l = some (.lst xs)) : LamX.Tabs T (upd H l (.lst ys)) := fun p hp => by
  obtain ⟨ps, h1, h2, h3⟩ := t p hp
  have n1 : p.1 ≠ l := ne_of h1 hl (by intro z; cases z)
  refine ⟨ps, by rw [upd_ne n1]; exact h1, h2, fun pos cv hc => ?_⟩
  obtain ⟨c, e1, e2⟩ := h3 pos cv hc
  have n2 : c ≠ l := ne_of e2 hl (by intro z; unfold LamX.CodeO at z; cases z)
  exact ⟨c, e1, by rw [upd_ne n2]; exact e2⟩
theorem tabs_updd {T : List (Addr × Str)} {H : Hp} {l : Addr} {xs : List (Key × V)} {o : HO} (t : LamX.Tabs T H) (hl : H l = some (.dK xs)) : LamX.Tabs T (upd H l o) := fun p hp => by
  obtain ⟨ps, h1, h2, h3⟩ := t p hp
  have n1 : p.1 ≠ l := ne_of h1 hl (by intro z; cases z)
  refine ⟨ps, by rw [upd_ne n1]; exact h1, h2, fun pos cv hc => ?_⟩
  obtain ⟨c, e1, e2⟩ := h3 pos cv hc
  have n2 : c ≠ l := ne_of e2 hl (by intro z; unfold LamX.CodeO at z; cases z)
  exact ⟨c, e1, by rw [upd_ne n2]; exact e2⟩
/-- nothing but tables changes -/
def W0 (T : List (Addr × Str)) : Wld T where
  M := fun _ => False
  J := fun _ H => LamX.Tabs T H
  tabs := fun h => h
  mono := fun _ h => h
  pure := fun _ _ h => h
  mtr := fun _ h => h.elim
  updl := fun h _ hl => tabs_upd h hl
  upddk := fun h _ hl => tabs_updd h hl

section
variable {T : List (Addr × Str)} {W : Wld T} {G H G1 H1 G2 H2 H0 : Hp} {G0 : Hp × Hp} {c c' k : Nat}
/-- G: the part that stands still -/
def GOk (W : Wld T) (G H : Hp) : Prop := ∀ a o, G a = some o → H a = some o ∧ NoTb o ∧ ¬ W.M a
structure Stp (W : Wld T) (G H G' H' : Hp) : Prop where
  gg : Same G G'
  hh : ∀ a o, H a = some o → ¬ W.M a → NoTb o → H' a = some o
  fr : ∀ a, G' a ≠ none → G a ≠ none ∨ Nf H a
  dom : ∀ a, Nf H' a → Nf H a
theorem Stp.refl : Stp W G H G H := ⟨fun _ _ h => h, fun _ _ h _ _ => h, fun _ h => .inl h, fun _ h => h⟩
theorem Stp.trans (a : Stp W G H G1 H1) (b : Stp W G1 H1 G2 H2) : Stp W G H G2 H2 :=
  ⟨a.gg.trans b.gg, fun x o h m n => b.hh x o (a.hh x o h m n) m n, fun x h => (b.fr x h).elim (a.fr x) fun z => .inr (a.dom x z), fun x h => a.dom x (b.dom x h)⟩
theorem Stp.lift (s : Stp (W0 T) G H G1 H1) : Stp W G H G1 H1 := ⟨s.gg, fun a o h _ n => s.hh a o h (fun z => z) n, s.fr, s.dom⟩
theorem GOk.lift (g : GOk W G H) (j : W.J c H) (s : Stp (W0 T) G H G1 H1) (g1 : GOk (W0 T) G1 H1) : GOk W G1 H1 := fun a o h => by
  obtain ⟨h1, h2, _⟩ := g1 a o h
  refine ⟨h1, h2, fun m => ?_⟩
  rcases s.fr a (by rw [h]; simp) with z | z
  · cases q : G a with
    | none => exact z q
    | some u => exact (g a u q).2.2 m
  · exact W.mtr j m z
theorem J_lift (j : W.J c H) (s : Stp (W0 T) G H G1 H1) (t : LamX.Tabs T H1) : W.J c H1 := W.pure j (fun a o h n => s.hh a o h (fun z => z) n) t
theorem GOk.drop (g : GOk W G H) : GOk (W0 T) G H := fun a o h => let ⟨h1, h2, _⟩ := g a o h; ⟨h1, h2, fun z => z⟩
theorem GOk.same (g : GOk W G H) : Same G H := fun a o h => (g a o h).1
theorem GOk.none (g : GOk W G H) {a : Addr} (h : H a = Option.none) : G a = Option.none := by
  cases q : G a with
  | none => rfl
  | some o => rw [(g a o q).1] at h; cases h

/-- a new object that stands still -/
theorem stp_new {p : Addr} {o : HO} (g : GOk W G H) (hp : H p = none) : Stp W G H (upd G p o) (upd H p o) :=
  ⟨same_new (g.none hp) o, fun a u h _ _ => same_new hp o a u h, fun a h => by
    by_cases e : a = p
    · exact .inr (by rw [e]; exact nf_none hp)
    · rw [upd_ne e] at h; exact .inl h, fun a h => by
    by_cases e : a = p
    · rw [e]; exact nf_none hp
    · unfold Nf at h; rw [upd_ne e] at h; exact h⟩
theorem gok_new {p : Addr} {o : HO} (g : GOk W G H) (j : W.J c H) (hp : H p = none) (n : NoTb o) : GOk W (upd G p o) (upd H p o) := fun a u h => by
  by_cases e : a = p
  · subst e
    rw [upd_same] at h ⊢
    cases h
    exact ⟨rfl, n, fun m => W.mtr j m (nf_none hp)⟩
  · rw [upd_ne e] at h ⊢
    exact g a u h
theorem J_new {p : Addr} {o : HO} (j : W.J c H) (hp : H p = none) : W.J c (upd H p o) := W.pure j (fun a u h _ => same_new hp o a u h) (tabs_same (W.tabs j) (same_new hp o))
theorem J_same (j : W.J c H) (e : Same H H1) : W.J c H1 := W.pure j (fun a u h _ => e a u h) (tabs_same (W.tabs j) e)
theorem noTb_tup (xs : List V) : NoTb (.tup xs) := fun _ z => by cases z
theorem noTb_lst (xs : List V) : NoTb (.lst xs) := fun _ z => by cases z
theorem noTb_dK (xs : List (Key × V)) : NoTb (.dK xs) := fun _ z => by cases z
theorem noTb_frz (o : Obj) (u : HO) : NoTb (.frz o u) := fun _ z => by cases z

/-! ### environments -/
inductive Slot where
  | emp | dat (d : D) | mu (ds : List D) | md (kvs : List (Key × D))
abbrev Env' := List Slot
/-- what the frame alone holds, as it stands now -/
inductive RpM (G : Hp) : HO → Slot → Prop
  | mu {xs : List V} {ds : List D} : RpL G xs ds → RpM G (.lst xs) (.mu ds)
  | md {xs : List (Key × V)} {kvs : List (Key × D)} : RpK G xs kvs → RpM G (.dK xs) (.md kvs)
def Slot.isM : Slot → Bool
  | .mu _ => true
  | .md _ => true
  | _ => false
theorem RpM.mono {G G' : Hp} (e : Same G G') {o : HO} {s : Slot} (r : RpM G o s) : RpM G' o s := by
  cases r with
  | mu r => exact .mu (r.mono e)
  | md r => exact .md (r.mono e)
theorem RpM.no {G : Hp} {o : HO} {s : Slot} (r : RpM G o s) : NoTb o := by
  cases r with
  | mu r => exact fun _ z => by cases z
  | md r => exact fun _ z => by cases z

structure EnvOk (W : Wld T) (H0 G H : Hp) (σ : L2.St) (env : Env') : Prop where
  len : σ.length = env.length
  dat : ∀ (i : Nat) (d : D), env[i]? = some (.dat d) → ∃ v, σ[i]? = some (some v) ∧ Rp G v d
  mus : ∀ (i : Nat) (s : Slot), env[i]? = some s → s.isM = true → ∃ l o, σ[i]? = some (some (.ref l)) ∧ H l = some o ∧ G l = none ∧ RpM G o s ∧ ¬ W.M l ∧ Nf H0 l
  apart : ∀ (i j : Nat) (s t : Slot) (l : Addr), i ≠ j → env[i]? = some s → env[j]? = some t → s.isM = true → t.isM = true → σ[i]? = some (some (.ref l)) → σ[j]? ≠ some (some (.ref l))
theorem EnvOk.mu {σ : L2.St} {env : Env'} (E : EnvOk W H0 G H σ env) (i : Nat) (ds : List D) (h : env[i]? = some (.mu ds)) : ∃ l xs, σ[i]? = some (some (.ref l)) ∧ H l = some (.lst xs) ∧ G l = none ∧ RpL G xs ds ∧ ¬ W.M l ∧ Nf H0 l := by
  obtain ⟨l, o, h1, h2, h3, h4, h5⟩ := E.mus i _ h rfl
  cases h4 with
  | mu r => exact ⟨l, _, h1, h2, h3, r, h5⟩
theorem EnvOk.md {σ : L2.St} {env : Env'} (E : EnvOk W H0 G H σ env) (i : Nat) (ds : List (Key × D)) (h : env[i]? = some (.md ds)) : ∃ l xs, σ[i]? = some (some (.ref l)) ∧ H l = some (.dK xs) ∧ G l = none ∧ RpK G xs ds ∧ ¬ W.M l ∧ Nf H0 l := by
  obtain ⟨l, o, h1, h2, h3, h4, h5⟩ := E.mus i _ h rfl
  cases h4 with
  | md r => exact ⟨l, _, h1, h2, h3, r, h5⟩
structure At (W : Wld T) (G0 : Hp × Hp) (H0 : Hp) (c : Nat) (G H : Hp) (σ : L2.St) (env : Env') : Prop where
  st : Stp W G0.2 H0 G H
  sb : Same G0.1 G
  gok : GOk W G H
  j : W.J c H
  env : EnvOk W H0 G H σ env
theorem At.step {σ : L2.St} {env : Env'} (A : At W G0 H0 c G H σ env) (s : Stp W G H G1 H1) (g : GOk W G1 H1) (j : W.J c' H1) : At W G0 H0 c' G1 H1 σ env := by
  refine ⟨A.st.trans s, A.sb.trans s.gg, g, j, A.env.len, fun i d h => ?_, fun i x h hm => ?_, A.env.apart⟩
  · obtain ⟨v, e, r⟩ := A.env.dat i d h
    exact ⟨v, e, r.mono s.gg⟩
  · obtain ⟨l, o, e, hl, gl, r, m, n⟩ := A.env.mus i x h hm
    refine ⟨l, o, e, s.hh l _ hl m r.no, ?_, r.mono s.gg, m, n⟩
    cases q : G1 l with
    | none => rfl
    | some o =>
      rcases s.fr l (by rw [q]; simp) with z | z
      · exact absurd gl z
      · exact absurd z (nf_no hl r.no)
/-- slot i is given what is not changed; all that changes stays -/
theorem At.setX {σ : L2.St} {env : Env'} (A : At W G0 H0 c G H σ env) (i : Nat) (x : Option V) (s : Slot) (hs : s.isM = false) (hd : ∀ d, s = .dat d → ∃ v, x = some v ∧ Rp G v d) : At W G0 H0 c G H (σ.set i x) (env.set i s) := by
  have key : ∀ (k : Nat) (t : Slot), t.isM = true → (env.set i s)[k]? = some t → k ≠ i := fun k t ht h e => by
    subst e
    by_cases hl : k < env.length
    · rw [List.getElem?_set_self hl] at h
      rw [← Option.some.inj h, hs] at ht
      cases ht
    · rw [List.getElem?_eq_none (by simpa using hl)] at h; cases h
  refine ⟨A.st, A.sb, A.gok, A.j, by rw [List.length_set, List.length_set, A.env.len], fun k e h => ?_, fun k t h hm => ?_, fun p q t u l ne h1 h2 m1 m2 h3 => ?_⟩
  · by_cases hk : k = i
    · subst hk
      by_cases hl : k < env.length
      · rw [List.getElem?_set_self hl] at h
        obtain ⟨v, ex, r⟩ := hd e (Option.some.inj h)
        exact ⟨v, by rw [ex]; exact List.getElem?_set_self (by rw [A.env.len]; exact hl), r⟩
      · rw [List.getElem?_eq_none (by simpa using hl)] at h; cases h
    · rw [List.getElem?_set_ne (Ne.symm hk)] at h ⊢
      exact A.env.dat k e h
  · have n := key k t hm h
    rw [List.getElem?_set_ne (Ne.symm n)] at h ⊢
    exact A.env.mus k t h hm
  · have n1 := key p t m1 h1
    have n2 := key q u m2 h2
    rw [List.getElem?_set_ne (Ne.symm n1)] at h1 h3
    rw [List.getElem?_set_ne (Ne.symm n2)] at h2 ⊢
    exact A.env.apart p q t u l ne h1 h2 m1 m2 h3
/-- a slot is given data -/
theorem At.setD {σ : L2.St} {env : Env'} {v : V} {d : D} (A : At W G0 H0 c G H σ env) (i : Nat) (r : Rp G v d) : At W G0 H0 c G H (σ.set i (some v)) (env.set i (.dat d)) :=
  A.setX i (some v) (.dat d) rfl fun d' e => by cases e; exact ⟨v, rfl, r⟩
/-- a slot is forgotten -/
theorem At.drop {σ : L2.St} {env : Env'} (A : At W G0 H0 c G H σ env) (i : Nat) (x : Option V) : At W G0 H0 c G H (σ.set i x) (env.set i .emp) :=
  A.setX i x .emp rfl fun d' e => by cases e
def wipeE (env : Env') : List Nat → Env'
  | [] => env
  | v :: vs => (wipeE env vs).set v .emp
theorem At.wipe {σ : L2.St} {env : Env'} (A : At W G0 H0 c G H σ env) : ∀ vs : List Nat, At W G0 H0 c G H (wipe σ vs) (wipeE env vs)
  | [] => A
  | v :: vs => by
    unfold L2.wipe wipeE
    exact (At.wipe A vs).drop v none
theorem wipe_get {σ : L2.St} {i : Nat} : ∀ {vs : List Nat}, (wipe σ vs)[i]? = if i ∈ vs ∧ i < σ.length then some none else σ[i]?
  | [] => by simp [L2.wipe]
  | v :: vs => by
    unfold L2.wipe
    rw [List.getElem?_set, wipe_get (vs := vs), wipe_length]
    by_cases h1 : v = i
    · subst h1
      by_cases h2 : v < σ.length
      · simp [h2]
      · simp [h2]
    · rw [if_neg h1]
      have : (i ∈ v :: vs) = (i ∈ vs) := by
        simp only [List.mem_cons, eq_iff_iff]
        exact ⟨fun z => z.resolve_left fun e => h1 e.symm, .inr⟩
      simp only [this]
theorem wipe_set {σ : L2.St} {j : Nat} {x : Option V} {vs : List Nat} (h : j ∈ vs) : wipe (σ.set j x) vs = wipe σ vs := by
  apply List.ext_getElem?
  intro i
  rw [wipe_get, wipe_get, List.length_set]
  by_cases c : i ∈ vs ∧ i < σ.length
  · rw [if_pos c, if_pos c]
  · rw [if_neg c, if_neg c]
    by_cases e : j = i
    · subst e
      have : ¬ j < σ.length := fun z => c ⟨h, z⟩
      rw [List.getElem?_eq_none (by rw [List.length_set]; omega), List.getElem?_eq_none (by omega)]
    · rw [List.getElem?_set_ne e]
theorem wipe_wipe {σ : L2.St} {vs : List Nat} : wipe (wipe σ vs) vs = wipe σ vs := by
  apply List.ext_getElem?
  intro i
  rw [wipe_get, wipe_length]
  by_cases c : i ∈ vs ∧ i < σ.length
  · rw [if_pos c, wipe_get, if_pos c]
  · rw [if_neg c]

/-! ### judgements -/
def EN (W : Wld T) (te : TE) (env : Env') (c k : Nat) (P : D → Prop) : Prop := ∀ G0 H0 σ G H, At W G0 H0 c G H σ env → ∀ Q : VK,
  (∀ v d G2 H2, Stp W G H G2 H2 → GOk W G2 H2 → W.J (c + k) H2 → Rp G2 v d → P d → Q v H2) → te σ H Q
def Kt (W : Wld T) (c : Nat) (G H : Hp) (d : D) (Q : VK) : Prop := ∀ v G2 H2, Stp W G H G2 H2 → GOk W G2 H2 → W.J c H2 → Rp G2 v d → Q v H2
def ED (W : Wld T) (te : TE) (env : Env') (d : D) : Prop := ∀ c G0 H0 σ G H, At W G0 H0 c G H σ env → ∀ Q : VK, Kt W c G H d Q → te σ H Q
def ET (W : Wld T) (tt : TT) (env : Env') (b : Bool) : Prop := ∀ c G0 H0 σ G H, At W G0 H0 c G H σ env → ∀ Q : Bool → Hp → Prop,
  (∀ G2 H2, Stp W G H G2 H2 → GOk W G2 H2 → W.J c H2 → Q b H2) → tt σ H Q
def ETN (W : Wld T) (tt : TT) (env : Env') (c k : Nat) (P : Bool → Prop) : Prop := ∀ G0 H0 σ G H, At W G0 H0 c G H σ env → ∀ Q : Bool → Hp → Prop,
  (∀ b G2 H2, Stp W G H G2 H2 → GOk W G2 H2 → W.J (c + k) H2 → P b → Q b H2) → tt σ H Q
def EA (W : Wld T) (ta : TA) (env : Env') (ds : List D) : Prop := ∀ c G0 H0 σ G H, At W G0 H0 c G H σ env → ∀ Q : List V → Hp → Prop,
  (∀ vs G2 H2, Stp W G H G2 H2 → GOk W G2 H2 → W.J c H2 → RpL G2 vs ds → Q vs H2) → ta σ H Q
def EAN (W : Wld T) (ta : TA) (env : Env') (c k : Nat) (P : List D → Prop) : Prop := ∀ G0 H0 σ G H, At W G0 H0 c G H σ env → ∀ Q : List V → Hp → Prop,
  (∀ vs ds G2 H2, Stp W G H G2 H2 → GOk W G2 H2 → W.J (c + k) H2 → RpL G2 vs ds → P ds → Q vs H2) → ta σ H Q
theorem ED.n {te : TE} {env : Env'} {d : D} (h : ED W te env d) : EN W te env c 0 (fun x => x = d) := fun G0 H0 σ G H A Q q => h c G0 H0 σ G H A Q fun v G2 H2 s g j r => q v d G2 H2 s g j r rfl
theorem ET.n {te : TT} {env : Env'} {b : Bool} (h : ET W te env b) : ETN W te env c 0 (fun x => x = b) := fun G0 H0 σ G H A Q q => h c G0 H0 σ G H A Q fun G2 H2 s g j => q b G2 H2 s g j rfl
theorem EA.n {ta : TA} {env : Env'} {ds : List D} (h : EA W ta env ds) : EAN W ta env c 0 (fun x => x = ds) := fun G0 H0 σ G H A Q q => h c G0 H0 σ G H A Q fun v G2 H2 s g j r => q v ds G2 H2 s g j r rfl
theorem EN.imp {te : TE} {env : Env'} {P P' : D → Prop} {k' : Nat} (h : EN W te env c k P) (hk : k ≤ k') (hp : ∀ d, P d → P' d) : EN W te env c k' P' := fun G0 H0 σ G H A Q q =>
  h G0 H0 σ G H A Q fun v d G2 H2 s g j r p => q v d G2 H2 s g (W.mono (Nat.add_le_add_left hk c) j) r (hp d p)
theorem EN.det {te : TE} {env : Env'} {d : D} (h : ∀ c, EN W te env c 0 (fun x => x = d)) : ED W te env d := fun c G0 H0 σ G H A Q q => h c G0 H0 σ G H A Q fun v d' G2 H2 s g j r e => by
  subst e
  exact q v G2 H2 s g j r
theorem ED.eq {te : TE} {env : Env'} {d d' : D} (h : ED W te env d) (e : d = d') : ED W te env d' := e ▸ h
theorem ET.eq {te : TT} {env : Env'} {b b' : Bool} (h : ET W te env b) (e : b = b') : ET W te env b' := e ▸ h

/-! ### names, constants -/
theorem ed_var {env : Env'} {d : D} {i : Nat} (h : env[i]? = some (.dat d)) : ED W (tVar i) env d := fun c G0 H0 σ G H A Q q => by
  obtain ⟨v, e, r⟩ := A.env.dat i d h
  exact ⟨v, e, q v G H Stp.refl A.gok A.j r⟩
theorem ed_c {env : Env'} {v : V} {d : D} (h : ∀ G, Rp G v d) : ED W (tC v) env d := fun c G0 H0 σ G H A Q q => q v G H Stp.refl A.gok A.j (h G)
theorem ed_int {env : Env'} {i : Int} : ED W (tC (.int i)) env (.int i) := ed_c fun _ => .int i
theorem ed_bl {env : Env'} {b : Bool} : ED W (tC (.bl b)) env (.bl b) := ed_c fun _ => .bl b
theorem ed_non {env : Env'} : ED W (tC .non) env .non := ed_c fun _ => .non
theorem ed_str {env : Env'} {s : Str} : ED W (tC (.str s)) env (.str s) := ed_c fun _ => .str s
theorem ed_raw {env : Env'} {v : V} : ED W (tC v) env (.raw v) := ed_c fun _ => .raw v

/-! ### argument lists, displays -/
theorem ea_nil {env : Env'} : EA W tNil env [] := fun c G0 H0 σ G H A Q q => q [] G H Stp.refl A.gok A.j .nil
theorem ea_cons {env : Env'} {te : TE} {ta : TA} {d : D} {ds : List D} (h : ED W te env d) (hr : EA W ta env ds) : EA W (tCons te ta) env (d :: ds) := fun c G0 H0 σ G H A Q q =>
  h c G0 H0 σ G H A _ fun v G1 H1 s1 g1 j1 r1 => hr c G0 H0 σ G1 H1 (A.step s1 g1 j1) _ fun vs G2 H2 s2 g2 j2 r2 => q (v :: vs) G2 H2 (s1.trans s2) g2 j2 (.cons (r1.mono s2.gg) r2)
theorem ean_nil {env : Env'} : EAN W tNil env c 0 (fun ds => ds = []) := ea_nil.n
theorem ean_cons {env : Env'} {te : TE} {ta : TA} {P : D → Prop} {R : List D → Prop} {k2 : Nat} (h : EN W te env c k P) (hr : EAN W ta env (c + k) k2 R) : EAN W (tCons te ta) env c (k + k2) (fun l => ∃ d ds, l = d :: ds ∧ P d ∧ R ds) := fun G0 H0 σ G H A Q q =>
  h G0 H0 σ G H A _ fun v d G1 H1 s1 g1 j1 r1 p1 => hr G0 H0 σ G1 H1 (A.step s1 g1 j1) _ fun vs ds G2 H2 s2 g2 j2 r2 p2 => q (v :: vs) (d :: ds) G2 H2 (s1.trans s2) g2 (by rw [← Nat.add_assoc]; exact j2) (.cons (r1.mono s2.gg) r2) ⟨d, ds, rfl, p1, p2⟩
theorem sqT_of {K : PySem.W.Frag} {a : Addr} {xs : List V} (g : GOk W G H) (h : G a = some (.tup xs)) : SqT K H a xs := SqT.of (g.same _ _ h)
theorem sqL_of {K : PySem.W.Frag} {a : Addr} {xs : List V} (g : GOk W G H) (h : G a = some (.lst xs)) : SqL K H a xs := SqL.of (g.same _ _ h)
theorem ea_starT {K : PySem.W.Frag} {env : Env'} {te : TE} {ta : TA} {es ds : List D} (h : ED W te env (.tup es)) (hr : EA W ta env ds) : EA W (StX.tStar K te ta) env (es ++ ds) := fun c G0 H0 σ G H A Q q =>
  h c G0 H0 σ G H A _ fun v G1 H1 s1 g1 j1 r1 => by
    cases r1 with
    | tup ha ra =>
      refine ⟨_, _, rfl, .inl (sqT_of g1 ha), ?_⟩
      exact hr c G0 H0 σ G1 H1 (A.step s1 g1 j1) _ fun vs G2 H2 s2 g2 j2 r2 => q _ G2 H2 (s1.trans s2) g2 j2 ((ra.mono s2.gg).app r2)
theorem ed_tup {env : Env'} {ta : TA} {ds : List D} (h : EA W ta env ds) (hz : ds.length ≤ 100000) : ED W (tTup ta) env (.tup ds) := fun c G0 H0 σ G H A Q q =>
  h c G0 H0 σ G H A _ fun vs G1 H1 s1 g1 j1 r1 => ⟨by rw [r1.len]; exact Nat.le_trans hz (by decide), fun p hp =>
    q (.ref p) _ _ (s1.trans (stp_new g1 hp)) (gok_new g1 j1 hp (noTb_tup _)) (J_new j1 hp) (.tup upd_same (r1.mono (same_new (g1.none hp) _)))⟩
theorem ed_lst {env : Env'} {ta : TA} {ds : List D} (h : EA W ta env ds) (hz : ds.length ≤ 100000) : ED W (tLst ta) env (.lst ds) := fun c G0 H0 σ G H A Q q =>
  h c G0 H0 σ G H A _ fun vs G1 H1 s1 g1 j1 r1 => ⟨by rw [r1.len]; exact Nat.le_trans hz (by decide), fun p hp =>
    q (.ref p) _ _ (s1.trans (stp_new g1 hp)) (gok_new g1 j1 hp (noTb_lst _)) (J_new j1 hp) (.lst upd_same (r1.mono (same_new (g1.none hp) _)))⟩
theorem en_tup {env : Env'} {ta : TA} {P : List D → Prop} (h : EAN W ta env c k P) (hz : ∀ ds, P ds → ds.length ≤ 100000) : EN W (tTup ta) env c k (fun d => ∃ ds, d = .tup ds ∧ P ds) := fun G0 H0 σ G H A Q q =>
  h G0 H0 σ G H A _ fun vs ds G1 H1 s1 g1 j1 r1 p1 => ⟨by rw [r1.len]; exact Nat.le_trans (hz ds p1) (by decide), fun p hp =>
    q (.ref p) _ _ _ (s1.trans (stp_new g1 hp)) (gok_new g1 j1 hp (noTb_tup _)) (J_new j1 hp) (.tup upd_same (r1.mono (same_new (g1.none hp) _))) ⟨ds, rfl, p1⟩⟩
theorem en_lst {env : Env'} {ta : TA} {P : List D → Prop} (h : EAN W ta env c k P) (hz : ∀ ds, P ds → ds.length ≤ 100000) : EN W (tLst ta) env c k (fun d => ∃ ds, d = .lst ds ∧ P ds) := fun G0 H0 σ G H A Q q =>
  h G0 H0 σ G H A _ fun vs ds G1 H1 s1 g1 j1 r1 p1 => ⟨by rw [r1.len]; exact Nat.le_trans (hz ds p1) (by decide), fun p hp =>
    q (.ref p) _ _ _ (s1.trans (stp_new g1 hp)) (gok_new g1 j1 hp (noTb_lst _)) (J_new j1 hp) (.lst upd_same (r1.mono (same_new (g1.none hp) _))) ⟨ds, rfl, p1⟩⟩

/-! ### operators by values -/
def RD2 (W : Wld T) (r : R2) (d1 d2 d : D) : Prop := ∀ c G H v1 v2, GOk W G H → W.J c H → Rp G v1 d1 → Rp G v2 d2 → ∀ Q : VK, Kt W c G H d Q → r v1 v2 H Q
def RD1 (W : Wld T) (r : V → Hp → VK → Prop) (d1 d : D) : Prop := ∀ c G H v1, GOk W G H → W.J c H → Rp G v1 d1 → ∀ Q : VK, Kt W c G H d Q → r v1 H Q
def RDL (W : Wld T) (r : List V → Hp → VK → Prop) (ds : List D) (d : D) : Prop := ∀ c G H vs, GOk W G H → W.J c H → RpL G vs ds → ∀ Q : VK, Kt W c G H d Q → r vs H Q
theorem Kt.here {Q : VK} {v : V} {d : D} (q : Kt W c G H d Q) (g : GOk W G H) (j : W.J c H) (r : Rp G v d) : Q v H := q v G H Stp.refl g j r
theorem Kt.new {Q : VK} {d : D} {o : HO} {p : Addr} (q : Kt W c G H d Q) (g : GOk W G H) (j : W.J c H) (hp : H p = none) (n : NoTb o) (r : Rp (upd G p o) (.ref p) d) : Q (.ref p) (upd H p o) :=
  q (.ref p) _ _ (stp_new g hp) (gok_new g j hp n) (J_new j hp) r
theorem Kt.newT {Q : VK} {ds : List D} {xs : List V} {p : Addr} (q : Kt W c G H (.tup ds) Q) (g : GOk W G H) (j : W.J c H) (hp : H p = none) (r : RpL G xs ds) : Q (.ref p) (upd H p (.tup xs)) :=
  q.new g j hp (noTb_tup _) (.tup upd_same (r.mono (same_new (g.none hp) _)))
theorem Kt.newL {Q : VK} {ds : List D} {xs : List V} {p : Addr} (q : Kt W c G H (.lst ds) Q) (g : GOk W G H) (j : W.J c H) (hp : H p = none) (r : RpL G xs ds) : Q (.ref p) (upd H p (.lst xs)) :=
  q.new g j hp (noTb_lst _) (.lst upd_same (r.mono (same_new (g.none hp) _)))
theorem ed_op {env : Env'} {ta tb : TE} {r : R2} {d1 d2 d : D} (ha : ED W ta env d1) (hb : ED W tb env d2) (hr : RD2 W r d1 d2 d) : ED W (tOp r ta tb) env d := fun c G0 H0 σ G H A Q q =>
  ha c G0 H0 σ G H A _ fun v1 G1 H1 s1 g1 j1 r1 => hb c G0 H0 σ G1 H1 (A.step s1 g1 j1) _ fun v2 G2 H2 s2 g2 j2 r2 =>
    hr c G2 H2 v1 v2 g2 j2 (r1.mono s2.gg) r2 Q fun v G3 H3 s3 g3 j3 r3 => q v G3 H3 ((s1.trans s2).trans s3) g3 j3 r3
theorem en_op {env : Env'} {ta tb : TE} {r : R2} {P1 P2 P : D → Prop} {k1 k2 : Nat} (ha : EN W ta env c k1 P1) (hb : EN W tb env (c + k1) k2 P2) (hr : ∀ d1 d2, P1 d1 → P2 d2 → ∃ d, RD2 W r d1 d2 d ∧ P d) : EN W (tOp r ta tb) env c (k1 + k2) P := fun G0 H0 σ G H A Q q =>
  ha G0 H0 σ G H A _ fun v1 d1 G1 H1 s1 g1 j1 r1 p1 => hb G0 H0 σ G1 H1 (A.step s1 g1 j1) _ fun v2 d2 G2 H2 s2 g2 j2 r2 p2 => by
    obtain ⟨d, hd, pd⟩ := hr d1 d2 p1 p2
    exact hd (c + k1 + k2) G2 H2 v1 v2 g2 j2 (r1.mono s2.gg) r2 Q fun v G3 H3 s3 g3 j3 r3 => q v d G3 H3 ((s1.trans s2).trans s3) g3 (by rw [← Nat.add_assoc]; exact j3) r3 pd
theorem ed_un {env : Env'} {ta : TE} {r : V → Hp → VK → Prop} {d1 d : D} (ha : ED W ta env d1) (hr : RD1 W r d1 d) : ED W (tUn r ta) env d := fun c G0 H0 σ G H A Q q =>
  ha c G0 H0 σ G H A _ fun v1 G1 H1 s1 g1 j1 r1 => hr c G1 H1 v1 g1 j1 r1 Q fun v G3 H3 s3 g3 j3 r3 => q v G3 H3 (s1.trans s3) g3 j3 r3
theorem ed_CB {env : Env'} {ta : TA} {r : List V → Hp → VK → Prop} {ds : List D} {d : D} (ha : EA W ta env ds) (hr : RDL W r ds d) : ED W (tCB r ta) env d := fun c G0 H0 σ G H A Q q =>
  ha c G0 H0 σ G H A _ fun vs G1 H1 s1 g1 j1 r1 => hr c G1 H1 vs g1 j1 r1 Q fun v G3 H3 s3 g3 j3 r3 => q v G3 H3 (s1.trans s3) g3 j3 r3
theorem en_CB {env : Env'} {ta : TA} {r : List V → Hp → VK → Prop} {P : List D → Prop} {P' : D → Prop} (ha : EAN W ta env c k P) (hr : ∀ ds, P ds → ∃ d, RDL W r ds d ∧ P' d) : EN W (tCB r ta) env c k P' := fun G0 H0 σ G H A Q q =>
  ha G0 H0 σ G H A _ fun vs ds G1 H1 s1 g1 j1 r1 p1 => by
    obtain ⟨d, hd, pd⟩ := hr ds p1
    exact hd (c + k) G1 H1 vs g1 j1 r1 Q fun v G3 H3 s3 g3 j3 r3 => q v d G3 H3 (s1.trans s3) g3 j3 r3 pd
theorem rd_I0 {g : Int → Int → V} {i j : Int} {d : D} (h : ∀ G, Rp G (g i j) d) : RD2 W (rI0 g) (.int i) (.int j) d := fun c G H v1 v2 gk jk r1 r2 Q q => by
  cases r1; cases r2
  exact ⟨i, j, rfl, rfl, q.here gk jk (h G)⟩
theorem rd_I {C : Int → Int → Prop} {g : Int → Int → V} {i j : Int} {d : D} (hc : C i j) (h : ∀ G, Rp G (g i j) d) : RD2 W (rI C g) (.int i) (.int j) d := fun c G H v1 v2 gk jk r1 r2 Q q => by
  cases r1; cases r2
  exact ⟨i, j, rfl, rfl, hc, q.here gk jk (h G)⟩
theorem rd_inl {r r' : R2} {d1 d2 d : D} (h : RD2 W r d1 d2 d) : RD2 W (fun x y H Q => r x y H Q ∨ r' x y H Q) d1 d2 d := fun c G H v1 v2 gk jk r1 r2 Q q => .inl (h c G H v1 v2 gk jk r1 r2 Q q)
theorem rd_inr {r r' : R2} {d1 d2 d : D} (h : RD2 W r' d1 d2 d) : RD2 W (fun x y H Q => r x y H Q ∨ r' x y H Q) d1 d2 d := fun c G H v1 v2 gk jk r1 r2 Q q => .inr (h c G H v1 v2 gk jk r1 r2 Q q)
theorem rdl_inl {r r' : List V → Hp → VK → Prop} {ds : List D} {d : D} (h : RDL W r ds d) : RDL W (fun xs H Q => r xs H Q ∨ r' xs H Q) ds d := fun c G H vs gk jk r1 Q q => .inl (h c G H vs gk jk r1 Q q)
theorem rdl_inr {r r' : List V → Hp → VK → Prop} {ds : List D} {d : D} (h : RDL W r' ds d) : RDL W (fun xs H Q => r xs H Q ∨ r' xs H Q) ds d := fun c G H vs gk jk r1 Q q => .inr (h c G H vs gk jk r1 Q q)

/-! ### tests -/
theorem et_test {env : Env'} {te : TE} {b : Bool} (h : ED W te env (.bl b)) : ET W (tTest te) env b := fun c G0 H0 σ G H A Q q =>
  h c G0 H0 σ G H A _ fun v G1 H1 s g j r => by
    cases r
    exact ⟨b, rfl, q G1 H1 s g j⟩
theorem et_B {env : Env'} {te : TE} {b : Bool} (h : ED W te env (.bl b)) : ET W (tB te) env b := et_test h
theorem etn_test {env : Env'} {te : TE} {P : Bool → Prop} (h : EN W te env c k (fun d => ∃ b, d = .bl b ∧ P b)) : ETN W (tTest te) env c k P := fun G0 H0 σ G H A Q q =>
  h G0 H0 σ G H A _ fun v d G1 H1 s g j r p => by
    obtain ⟨b, rfl, pb⟩ := p
    cases r
    exact ⟨b, rfl, q b G1 H1 s g j pb⟩
theorem et_and {env : Env'} {t u : TT} {a b : Bool} (h1 : ET W t env a) (h2 : a = true → ET W u env b) : ET W (tAnd t u) env (a && b) := fun c G0 H0 σ G H A Q q =>
  h1 c G0 H0 σ G H A _ fun G1 H1 s1 g1 j1 => by
    cases a with
    | true => exact h2 rfl c G0 H0 σ G1 H1 (A.step s1 g1 j1) Q fun G2 H2 s2 g2 j2 => q G2 H2 (s1.trans s2) g2 j2
    | false => exact q G1 H1 s1 g1 j1
theorem et_or {env : Env'} {t u : TT} {a b : Bool} (h1 : ET W t env a) (h2 : a = false → ET W u env b) : ET W (tOr t u) env (a || b) := fun c G0 H0 σ G H A Q q =>
  h1 c G0 H0 σ G H A _ fun G1 H1 s1 g1 j1 => by
    cases a with
    | true => exact q G1 H1 s1 g1 j1
    | false => exact h2 rfl c G0 H0 σ G1 H1 (A.step s1 g1 j1) Q fun G2 H2 s2 g2 j2 => q G2 H2 (s1.trans s2) g2 j2
theorem et_not {env : Env'} {t : TT} {a : Bool} (h : ET W t env a) : ET W (tNot t) env (!a) := fun c G0 H0 σ G H A Q q => h c G0 H0 σ G H A _ q
theorem ed_andV {env : Env'} {ta tb : TE} {a b : Bool} (h1 : ED W ta env (.bl a)) (h2 : a = true → ED W tb env (.bl b)) : ED W (tAndV ta tb) env (.bl (a && b)) := fun c G0 H0 σ G H A Q q =>
  h1 c G0 H0 σ G H A _ fun v G1 H1 s1 g1 j1 r1 => by
    cases r1
    refine ⟨a, rfl, ?_⟩
    cases a with
    | true => exact h2 rfl c G0 H0 σ G1 H1 (A.step s1 g1 j1) Q fun v G2 H2 s2 g2 j2 r2 => q v G2 H2 (s1.trans s2) g2 j2 r2
    | false => exact q _ G1 H1 s1 g1 j1 (.bl _)
theorem ed_orV {env : Env'} {ta tb : TE} {a b : Bool} (h1 : ED W ta env (.bl a)) (h2 : a = false → ED W tb env (.bl b)) : ED W (tOrV ta tb) env (.bl (a || b)) := fun c G0 H0 σ G H A Q q =>
  h1 c G0 H0 σ G H A _ fun v G1 H1 s1 g1 j1 r1 => by
    cases r1
    refine ⟨a, rfl, ?_⟩
    cases a with
    | true => exact q _ G1 H1 s1 g1 j1 (.bl _)
    | false => exact h2 rfl c G0 H0 σ G1 H1 (A.step s1 g1 j1) Q fun v G2 H2 s2 g2 j2 r2 => q v G2 H2 (s1.trans s2) g2 j2 r2
theorem ed_notV {env : Env'} {ta : TE} {a : Bool} (h : ED W ta env (.bl a)) : ED W (tNotV ta) env (.bl (!a)) := fun c G0 H0 σ G H A Q q =>
  h c G0 H0 σ G H A _ fun v G1 H1 s1 g1 j1 r1 => by
    cases r1
    exact ⟨a, rfl, q _ G1 H1 s1 g1 j1 (.bl _)⟩
theorem ed_if {env : Env'} {t : TT} {ta tb : TE} {b : Bool} {d : D} (h : ET W t env b) (h1 : b = true → ED W ta env d) (h2 : b = false → ED W tb env d) : ED W (tIf t ta tb) env d := fun c G0 H0 σ G H A Q q =>
  h c G0 H0 σ G H A _ fun G1 H1 s1 g1 j1 => by
    cases b with
    | true => exact h1 rfl c G0 H0 σ G1 H1 (A.step s1 g1 j1) Q fun v G2 H2 s2 g2 j2 r2 => q v G2 H2 (s1.trans s2) g2 j2 r2
    | false => exact h2 rfl c G0 H0 σ G1 H1 (A.step s1 g1 j1) Q fun v G2 H2 s2 g2 j2 r2 => q v G2 H2 (s1.trans s2) g2 j2 r2

/-! ### what is walked -/
structure Its (W : Wld T) (J : It) (G1 : Hp) (items : List D) : Prop where
  go : ∀ (i : Nat) G2 H2, GOk W G2 H2 → Same G1 G2 → (∃ c, W.J c H2) → i < items.length → J.go i H2
  stop : ∀ (i : Nat) G2 H2, GOk W G2 H2 → Same G1 G2 → (∃ c, W.J c H2) → items.length ≤ i → J.stop i H2
  yld : ∀ (i : Nat) (d : D) c G2 H2 x H', GOk W G2 H2 → Same G1 G2 → W.J c H2 → items[i]? = some d → J.yld i H2 x H' → ∃ G', Stp W G2 H2 G' H' ∧ GOk W G' H' ∧ W.J c H' ∧ Rp G' x d
def Src (W : Wld T) (wi : TI) (env : Env') (items : List D) : Prop := ∀ c G0 H0 σ G H, At W G0 H0 c G H σ env → ∀ R : It → Hp → Prop,
  (∀ J G1 H1, Stp W G H G1 H1 → GOk W G1 H1 → W.J c H1 → Its W J G1 items → R J H1) → wi σ H R
def SrcN (W : Wld T) (wi : TI) (env : Env') (c k : Nat) (P : List D → Prop) : Prop := ∀ G0 H0 σ G H, At W G0 H0 c G H σ env → ∀ R : It → Hp → Prop,
  (∀ J G1 H1 items, Stp W G H G1 H1 → GOk W G1 H1 → W.J (c + k) H1 → P items → Its W J G1 items → R J H1) → wi σ H R
theorem Src.n {wi : TI} {env : Env'} {items : List D} (h : Src W wi env items) : SrcN W wi env c 0 (fun l => l = items) := fun G0 H0 σ G H A R q => h c G0 H0 σ G H A R fun J G1 H1 s g j i => q J G1 H1 items s g j rfl i
theorem its_list {K : PySem.W.Frag} {a : Addr} {xs : List V} {ds : List D} (h : G a = some (.lst xs)) (r : RpL G xs ds)
    : Its W (Itl K a) G ds := by
  refine ⟨fun i G2 H2 g e _ hi => ?_, fun i G2 H2 g e _ hi => ?_, fun i d c G2 H2 x H' g e j hd y => ?_⟩
  · have hi' : i < xs.length := by rw [r.len]; exact hi
    exact ⟨xs, xs[i], sqL_of g (e _ _ h), by simp [hi']⟩
  · exact ⟨xs, sqL_of g (e _ _ h), by rw [r.len]; exact hi⟩
  · obtain ⟨rfl, hy⟩ := y
    obtain ⟨v, e1, r1⟩ := r.get hd
    have := hy xs (sqL_of g (e _ _ h))
    rw [e1] at this
    cases this
    exact ⟨G2, Stp.refl, g, j, r1.mono e⟩
end
end Fx

set_option Elab.async false
set_option linter.all false
set_option maxRecDepth 100000
set_option maxHeartbeats 4000000
/-! Sources of loops, comprehensions, statements. -/
namespace Fx
open PySem PySem.Spec PyProof.Rows L2
section
variable {T : List (Addr × Str)} {W : Wld T} {G H G1 H1 G2 H2 H0 : Hp} {G0 : Hp × Hp} {c c' k : Nat} {K : PySem.W.Frag}
/-! ### sources -/
theorem its_tup {a : Addr} {xs : List V} {ds : List D} (h : G a = some (.tup xs)) (r : RpL G xs ds) : Its W (Itt K a) G ds := by
  refine ⟨fun i G2 H2 g e _ hi => ?_, fun i G2 H2 g e _ hi => ?_, fun i d c G2 H2 x H' g e j hd y => ?_⟩
  · have hi' : i < xs.length := by rw [r.len]; exact hi
    exact ⟨xs, xs[i], sqT_of g (e _ _ h), by simp [hi']⟩
  · exact ⟨xs, sqT_of g (e _ _ h), by rw [r.len]; exact hi⟩
  · obtain ⟨rfl, hy⟩ := y
    obtain ⟨v, e1, r1⟩ := r.get hd
    have := hy xs (sqT_of g (e _ _ h))
    rw [e1] at this
    cases this
    exact ⟨G2, Stp.refl, g, j, r1.mono e⟩
theorem its_range {lo : Int} {n : Nat} : Its W (Itr lo n) G ((List.range n).map fun (i : Nat) => .int (lo + i)) := by
  refine ⟨fun i G2 H2 g e _ hi => ?_, fun i G2 H2 g e _ hi => ?_, fun i d c G2 H2 x H' g e j hd y => ?_⟩
  · show i < n
    simpa using hi
  · show n ≤ i
    simpa using hi
  · obtain ⟨rfl, rfl⟩ := y
    rw [List.getElem?_map] at hd
    by_cases hi : i < n
    · rw [List.getElem?_range hi] at hd
      cases hd
      exact ⟨G2, Stp.refl, g, j, .int _⟩
    · rw [List.getElem?_eq_none (by simpa using hi)] at hd; cases hd
theorem its_enum {a : Addr} {xs : List V} {ds : List D} (h : G a = some (.lst xs)) (r : RpL G xs ds) : Its W (Ite K a) G (ds.zipIdx.map fun p => .tup [.int (p.2 : Nat), p.1]) := by
  refine ⟨fun i G2 H2 g e _ hi => ?_, fun i G2 H2 g e _ hi => ?_, fun i d c G2 H2 x H' g e j hd y => ?_⟩
  · have hi' : i < xs.length := by rw [r.len]; simpa using hi
    exact ⟨xs, xs[i], sqL_of g (e _ _ h), by simp [hi']⟩
  · exact ⟨xs, sqL_of g (e _ _ h), by rw [r.len]; simpa using hi⟩
  · obtain ⟨t, z, rfl, nt, rfl, hy⟩ := y
    rw [List.getElem?_map, List.getElem?_zipIdx] at hd
    cases hq : ds[i]? with
    | none => rw [hq] at hd; cases hd
    | some d0 =>
      rw [hq] at hd
      cases hd
      obtain ⟨v, e1, r1⟩ := r.get hq
      have := hy xs (sqL_of g (e _ _ h))
      rw [e1] at this
      cases this
      refine ⟨upd G2 t _, stp_new g nt, gok_new g j nt (noTb_tup _), J_new j nt, .tup upd_same ?_⟩
      have e2 : ((0 + i : Nat) : Int) = (i : Int) := by omega
      show RpL _ [V.int (i : Nat), z] [D.int ((0 + i : Nat) : Int), d0]
      rw [e2]
      exact .cons (.int _) (.cons ((r1.mono e).mono (same_new (g.none nt) _)) .nil)
theorem its_zipL {a b : Addr} {xs ys : List V} {ds es : List D} (h : G a = some (.lst xs)) (r : RpL G xs ds) (h' : G b = some (.lst ys)) (r' : RpL G ys es) : Its W (Itz K a b) G (List.zipWith (fun x y => .tup [x, y]) ds es) := by
  refine ⟨fun i G2 H2 g e _ hi => ?_, fun i G2 H2 g e _ hi => ?_, fun i d c G2 H2 x H' g e j hd y => ?_⟩
  · rw [List.length_zipWith] at hi
    have h1 : i < xs.length := by rw [r.len]; omega
    have h2 : i < ys.length := by rw [r'.len]; omega
    exact ⟨xs, ys, xs[i], ys[i], sqL_of g (e _ _ h), sqL_of g (e _ _ h'), by simp [h1], by simp [h2]⟩
  · rw [List.length_zipWith] at hi
    exact ⟨xs, ys, sqL_of g (e _ _ h), sqL_of g (e _ _ h'), by rw [r.len, r'.len]; omega⟩
  · obtain ⟨t, z, z', rfl, nt, rfl, hy, hy'⟩ := y
    rw [List.getElem?_zipWith] at hd
    cases hq : ds[i]? with
    | none => rw [hq] at hd; cases hd
    | some d0 =>
      cases hq' : es[i]? with
      | none => rw [hq, hq'] at hd; cases hd
      | some e0 =>
        rw [hq, hq'] at hd
        cases hd
        obtain ⟨v, e1, r1⟩ := r.get hq
        obtain ⟨v', e1', r1'⟩ := r'.get hq'
        have t1 := hy xs (sqL_of g (e _ _ h))
        have t2 := hy' ys (sqL_of g (e _ _ h'))
        rw [e1] at t1
        rw [e1'] at t2
        cases t1
        cases t2
        refine ⟨upd G2 t _, stp_new g nt, gok_new g j nt (noTb_tup _), J_new j nt, .tup upd_same ?_⟩
        have sn := same_new (g.none nt) (HO.tup [z, z'])
        exact .cons ((r1.mono e).mono sn) (.cons ((r1'.mono e).mono sn) .nil)
theorem its_zipT {a b : Addr} {xs ys : List V} {ds es : List D} (h : G a = some (.tup xs)) (r : RpL G xs ds) (h' : G b = some (.tup ys)) (r' : RpL G ys es) : Its W (RZ.ItzT K a b) G (List.zipWith (fun x y => .tup [x, y]) ds es) := by
  refine ⟨fun i G2 H2 g e _ hi => ?_, fun i G2 H2 g e _ hi => ?_, fun i d c G2 H2 x H' g e j hd y => ?_⟩
  · rw [List.length_zipWith] at hi
    have h1 : i < xs.length := by rw [r.len]; omega
    have h2 : i < ys.length := by rw [r'.len]; omega
    exact ⟨xs, ys, xs[i], ys[i], sqT_of g (e _ _ h), sqT_of g (e _ _ h'), by simp [h1], by simp [h2]⟩
  · rw [List.length_zipWith] at hi
    exact ⟨xs, ys, sqT_of g (e _ _ h), sqT_of g (e _ _ h'), by rw [r.len, r'.len]; omega⟩
  · obtain ⟨t, z, z', rfl, nt, rfl, hy, hy'⟩ := y
    rw [List.getElem?_zipWith] at hd
    cases hq : ds[i]? with
    | none => rw [hq] at hd; cases hd
    | some d0 =>
      cases hq' : es[i]? with
      | none => rw [hq, hq'] at hd; cases hd
      | some e0 =>
        rw [hq, hq'] at hd
        cases hd
        obtain ⟨v, e1, r1⟩ := r.get hq
        obtain ⟨v', e1', r1'⟩ := r'.get hq'
        have t1 := hy xs (sqT_of g (e _ _ h))
        have t2 := hy' ys (sqT_of g (e _ _ h'))
        rw [e1] at t1
        rw [e1'] at t2
        cases t1
        cases t2
        refine ⟨upd G2 t _, stp_new g nt, gok_new g j nt (noTb_tup _), J_new j nt, .tup upd_same ?_⟩
        have sn := same_new (g.none nt) (HO.tup [z, z'])
        exact .cons ((r1.mono e).mono sn) (.cons ((r1'.mono e).mono sn) .nil)
theorem src_list {tl : TE} {env : Env'} {ds : List D} (h : ED W tl env (.lst ds)) : Src W (iList K tl) env ds := fun c G0 H0 σ G H A R q =>
  h c G0 H0 σ G H A _ fun v G1 H1 s1 g1 j1 r1 => by
    cases r1 with
    | lst ha ra => exact ⟨_, rfl, ⟨_, sqL_of g1 ha⟩, q _ G1 H1 s1 g1 j1 (its_list ha ra)⟩
theorem src_tup {tl : TE} {env : Env'} {ds : List D} (h : ED W tl env (.tup ds)) : Src W (iTup K tl) env ds := fun c G0 H0 σ G H A R q =>
  h c G0 H0 σ G H A _ fun v G1 H1 s1 g1 j1 r1 => by
    cases r1 with
    | tup ha ra => exact ⟨_, rfl, ⟨_, sqT_of g1 ha⟩, q _ G1 H1 s1 g1 j1 (its_tup ha ra)⟩
/-- a list or a tuple -/
def iSeq (K : PySem.W.Frag) (tl : TE) : TI := fun σ H R => iList K tl σ H R ∨ iTup K tl σ H R
theorem pi_seq {X : Cx} {tg l : Expr} {tl : TE} (hl : PE X l tl) : PI X tg l (iSeq X.K tl) := ⟨fun pins s σ H R I h => h.elim (fun h => (pi_list hl).run pins s σ H R I h) fun h => (pi_tup hl).run pins s σ H R I h⟩
theorem src_seqL {tl : TE} {env : Env'} {ds : List D} (h : ED W tl env (.lst ds)) : Src W (iSeq K tl) env ds := fun c G0 H0 σ G H A R q => .inl (src_list h c G0 H0 σ G H A R q)
theorem src_seqT {tl : TE} {env : Env'} {ds : List D} (h : ED W tl env (.tup ds)) : Src W (iSeq K tl) env ds := fun c G0 H0 σ G H A R q => .inr (src_tup h c G0 H0 σ G H A R q)
theorem src_range1 {ta : TA} {env : Env'} {n : Int} (h : EA W ta env [.int n]) (hn : -(2 ^ 62) ≤ n ∧ n < 2 ^ 62) : Src W (iRng1 ta) env ((List.range n.toNat).map fun (i : Nat) => .int i) := fun c G0 H0 σ G H A R q =>
  h c G0 H0 σ G H A _ fun v G1 H1 s1 g1 j1 r1 => by
    cases r1 with
    | cons h1 h2 =>
      cases h1
      cases h2
      refine ⟨n, rfl, hn.1, hn.2, q _ G1 H1 s1 g1 j1 ?_⟩
      have e := its_range (W := W) (G := G1) (lo := 0) (n := n.toNat)
      have e2 : (fun (i : Nat) => D.int ((0 : Int) + i)) = fun (i : Nat) => D.int i := by
        funext i
        rw [Int.zero_add]
      rw [e2] at e
      exact e
theorem src_range2 {ta : TA} {env : Env'} {m n : Int} (h : EA W ta env [.int m, .int n]) (hn : -(2 ^ 62) ≤ m ∧ m < 2 ^ 62 ∧ -(2 ^ 62) ≤ n ∧ n < 2 ^ 62) : Src W (iRng2 ta) env ((List.range (n - m).toNat).map fun (i : Nat) => .int (m + i)) := fun c G0 H0 σ G H A R q =>
  h c G0 H0 σ G H A _ fun v G1 H1 s1 g1 j1 r1 => by
    cases r1 with
    | cons h1 h2 =>
      cases h1
      cases h2 with
      | cons h1 h2 =>
        cases h1
        cases h2
        exact ⟨m, n, rfl, hn, q _ G1 H1 s1 g1 j1 its_range⟩
theorem srcN_range1 {ta : TA} {env : Env'} {P : Int → Prop} (h : EAN W ta env c k (fun ds => ∃ n, ds = [.int n] ∧ P n)) (hn : ∀ n, P n → -(2 ^ 62) ≤ n ∧ n < 2 ^ 62) : SrcN W (iRng1 ta) env c k (fun l => ∃ n : Int, P n ∧ l = (List.range n.toNat).map fun (i : Nat) => .int i) := fun G0 H0 σ G H A R q =>
  h G0 H0 σ G H A _ fun v ds G1 H1 s1 g1 j1 r1 p => by
    obtain ⟨n, rfl, pn⟩ := p
    cases r1 with
    | cons h1 h2 =>
      cases h1
      cases h2
      refine ⟨n, rfl, (hn n pn).1, (hn n pn).2, q _ G1 H1 _ s1 g1 j1 ⟨n, pn, rfl⟩ ?_⟩
      have e := its_range (W := W) (G := G1) (lo := 0) (n := n.toNat)
      have e2 : (fun (i : Nat) => D.int ((0 : Int) + i)) = fun (i : Nat) => D.int i := by
        funext i
        rw [Int.zero_add]
      rw [e2] at e
      exact e
theorem src_enum {ta : TA} {env : Env'} {ds : List D} (h : EA W ta env [.lst ds]) : Src W (iEnum K ta) env (ds.zipIdx.map fun p => .tup [.int (p.2 : Nat), p.1]) := fun c G0 H0 σ G H A R q =>
  h c G0 H0 σ G H A _ fun v G1 H1 s1 g1 j1 r1 => by
    cases r1 with
    | cons h1 h2 =>
      cases h2
      cases h1 with
      | lst ha ra => exact ⟨_, _, rfl, sqL_of g1 ha, q _ G1 H1 s1 g1 j1 (its_enum ha ra)⟩
theorem src_zipT {ta : TA} {env : Env'} {ds es : List D} (h : EA W ta env [.tup ds, .tup es]) : Src W (RZ.iZipA K ta) env (List.zipWith (fun x y => .tup [x, y]) ds es) := fun c G0 H0 σ G H A R q =>
  h c G0 H0 σ G H A _ fun v G1 H1 s1 g1 j1 r1 => by
    cases r1 with
    | cons h1 h2 =>
      cases h2 with
      | cons h2 h3 =>
        cases h3
        cases h1 with
        | tup ha ra =>
          cases h2 with
          | tup hb rb => exact ⟨_, _, _, _, rfl, .inr ⟨sqT_of g1 ha, sqT_of g1 hb, q _ G1 H1 s1 g1 j1 (its_zipT ha ra hb rb)⟩⟩
/-! ### targets -/
def TgOk (W : Wld T) (g : TG) (d : D) (env env' : Env') : Prop := ∀ c G0 H0 σ G H v, At W G0 H0 c G H σ env → Rp G v d → ∀ Q : L2.St → Hp → Prop, (∀ σ', At W G0 H0 c G H σ' env' → Q σ' H) → g v σ H Q
def TgC (W : Wld T) (g : TG) (vs : List Nat) (d : D) (env env' : Env') : Prop := ∀ c G0 H0 σ G H v, At W G0 H0 c G H σ env → Rp G v d → ∀ Q : L2.St → Hp → Prop, (∀ σ', wipe σ' vs = wipe σ vs → At W G0 H0 c G H σ' env' → Q σ' H) → g v σ H Q
theorem tg_name {d : D} {env : Env'} {j : Nat} : TgOk W (gName j) d env (env.set j (.dat d)) := fun c G0 H0 σ G H v A r Q q => q _ (A.setD j r)
theorem tgc_name {d : D} {env : Env'} {j : Nat} {vs : List Nat} (hj : j ∈ vs) : TgC W (gName j) vs d env (env.set j (.dat d)) := fun c G0 H0 σ G H v A r Q q => q _ (wipe_set hj) (A.setD j r)
theorem tg_tup2 {d1 d2 : D} {env : Env'} {i j : Nat} : TgOk W (gTup K 2 (gCons (gName i) (gCons (gName j) gNil))) (.tup [d1, d2]) env ((env.set i (.dat d1)).set j (.dat d2)) := fun c G0 H0 σ G H v A r Q q => by
  cases r with
  | tup ha ra =>
    cases ra with
    | cons r1 ra =>
      cases ra with
      | cons r2 ra =>
        cases ra
        exact ⟨_, _, rfl, sqT_of A.gok ha, rfl, _, _, rfl, _, _, rfl, rfl, q _ ((A.setD i r1).setD j r2)⟩
theorem tgc_tup2 {d1 d2 : D} {env : Env'} {i j : Nat} {vs : List Nat} (hi : i ∈ vs) (hj : j ∈ vs) : TgC W (gTup K 2 (gCons (gName i) (gCons (gName j) gNil))) vs (.tup [d1, d2]) env ((env.set i (.dat d1)).set j (.dat d2)) := fun c G0 H0 σ G H v A r Q q => by
  cases r with
  | tup ha ra =>
    cases ra with
    | cons r1 ra =>
      cases ra with
      | cons r2 ra =>
        cases ra
        exact ⟨_, _, rfl, sqT_of A.gok ha, rfl, _, _, rfl, _, _, rfl, rfl, q _ ((wipe_set hj).trans (wipe_set hi)) ((A.setD i r1).setD j r2)⟩

/-! ### what is written beside the still part -/
theorem stp_upd {l : Addr} {o : HO} (s : Stp W G H G1 H1) (h : Nf H l) (n : NoTb o) : Stp W G H G1 (upd H1 l o) := ⟨s.gg, fun a u e m k => by
    have ne : a ≠ l := by
      rintro rfl
      exact h u e k
    rw [upd_ne ne]
    exact s.hh a u e m k, s.fr, fun a e => by
    by_cases z : a = l
    · rw [z]; exact h
    · unfold Nf at e; rw [upd_ne z] at e; exact s.dom a e⟩
theorem gok_upd {l : Addr} {o : HO} (g : GOk W G H) (h : G l = none) : GOk W G (upd H l o) := fun a u e => by
  have n : a ≠ l := ne_of_none e h
  rw [upd_ne n]
  exact g a u e
/-- a finished list stands still from now on -/
theorem stp_frz {l : Addr} {o : HO} (s : Stp W G H G1 H1) (h : Nf H l) (g : G1 l = none) : Stp W G H (upd G1 l o) H1 := ⟨s.gg.trans (same_new g o), s.hh, fun a e => by
    by_cases z : a = l
    · rw [z]; exact .inr h
    · rw [upd_ne z] at e; exact s.fr a e, s.dom⟩
theorem gok_frz {l : Addr} {o : HO} (g : GOk W G H) (h : H l = some o) (n : NoTb o) (m : ¬ W.M l) : GOk W (upd G l o) H := fun a u e => by
  by_cases z : a = l
  · subst z
    rw [upd_same] at e
    cases e
    exact ⟨h, n, m⟩
  · rw [upd_ne z] at e
    exact g a u e
theorem Stp.gone {l : Addr} {o : HO} (s : Stp W G H G1 H1) (g : G l = none) (h : H l = some o) (n : NoTb o) : G1 l = none := by
  cases q : G1 l with
  | none => rfl
  | some u =>
    rcases s.fr l (by rw [q]; simp) with z | z
    · exact absurd g z
    · exact absurd z (nf_no h n)

/-! ### comprehensions -/
/-- a fresh list is made, held by nobody else -/
def MN (W : Wld T) (te : TE) (env : Env') (c k : Nat) (P : List D → Prop) : Prop := ∀ G0 H0 σ G H, At W G0 H0 c G H σ env → ∀ Q : VK,
  (∀ p xs ds G2 H2, Stp W G H G2 H2 → GOk W G2 H2 → W.J (c + k) H2 → H2 p = some (.lst xs) → G2 p = none → Nf H p → ¬ W.M p → RpL G2 xs ds → P ds → Q (.ref p) H2) → te σ H Q
theorem MN.en {te : TE} {env : Env'} {P : List D → Prop} {P' : D → Prop} (h : MN W te env c k P) (hp : ∀ ds, P ds → P' (.lst ds)) : EN W te env c k P' := fun G0 H0 σ G H A Q q =>
  h G0 H0 σ G H A Q fun p xs ds G2 H2 s g j hp2 gp nf m r pd => q (.ref p) (.lst ds) (upd G2 p (.lst xs)) H2 (stp_frz s nf gp) (gok_frz g hp2 (noTb_lst _) m) j (.lst upd_same (r.mono (same_new gp _))) (hp ds pd)
theorem mn_lc {wi : TI} {tg : TG} {tt : TT} {te : TE} {vs : List Nat} {env : Env'} {k0 kt ke n : Nat} {P0 : List D → Prop} (envT : D → Env') (Pt : Nat → D → Bool → Prop) (Pe : Nat → D → D → Prop)
    (hs : SrcN W wi env c k0 P0) (hn : ∀ l, P0 l → l.length ≤ n) (hn2 : n ≤ 100000)
    (htg : ∀ l, P0 l → ∀ d ∈ l, TgC W tg vs d (wipeE env vs) (envT d)) (ht : ∀ l, P0 l → ∀ (i : Nat) (d : D), l[i]? = some d → ∀ c', c' + (kt + ke) ≤ c + (k0 + (kt + ke) * n) → ETN W tt (envT d) c' kt (Pt i d))
    (he : ∀ l, P0 l → ∀ (i : Nat) (d : D), l[i]? = some d → ∀ c', c' + ke ≤ c + (k0 + (kt + ke) * n) → Pt i d true → EN W te (envT d) c' ke (Pe i d)) :
    MN W (tLc wi tg tt te vs) env c (k0 + (kt + ke) * n) (fun ds => ∃ (l : List D) (os : List (Option D)), P0 l ∧ os.length = l.length ∧ (∀ (i : Nat) (x : D) (o : Option D), l[i]? = some x → os[i]? = some o → (o = none ∧ Pt i x false) ∨ ∃ y, o = some y ∧ Pt i x true ∧ Pe i x y) ∧ ds = os.filterMap id) := by
  intro G0 H0 σ G H A Q q
  refine hs G0 H0 σ G H A _ fun J G1 H1 l s1 g1 j1 p0 its => ?_
  intro Dl hD
  have gD : G1 Dl = none := g1.none hD
  have mD : ¬ W.M Dl := fun m => W.mtr j1 m (nf_none hD)
  have nD := nf_none hD
  have hln := hn l p0
  refine ⟨fun i m H' => m = l.length - i ∧ i ≤ l.length ∧ ∃ (G' : Hp) (acc : List V) (os : List (Option D)), Stp W G1 H1 G' H' ∧ GOk W G' H' ∧ W.J (c + k0 + (kt + ke) * i) H' ∧ H' Dl = some (.lst acc) ∧ G' Dl = none ∧ RpL G' acc (os.filterMap id) ∧ os.length = i ∧
    (∀ (i : Nat) (x : D) (o : Option D), l[i]? = some x → os[i]? = some o → (o = none ∧ Pt i x false) ∨ ∃ y, o = some y ∧ Pt i x true ∧ Pe i x y), ⟨l.length, by simp, Nat.zero_le _, G1, [], [], stp_upd Stp.refl nD (noTb_lst _), gok_upd g1 gD, J_new j1 hD, upd_same, gD, .nil, rfl, fun i x o _ z => by simp at z⟩, ?_⟩
  rintro i m H' ⟨rfl, hi, G', acc, os, s', g', j', hDl, gDl, rA, ol, oR⟩
  by_cases hlt : i < l.length
  · refine .inr ⟨its.go i G' H' g' s'.gg ⟨_, j'⟩ hlt, fun H'' => i + 1 ≤ l.length ∧ ∃ (G' : Hp) (acc : List V) (os : List (Option D)), Stp W G1 H1 G' H'' ∧ GOk W G' H'' ∧ W.J (c + k0 + (kt + ke) * (i + 1)) H'' ∧ H'' Dl = some (.lst acc) ∧ G' Dl = none ∧ RpL G' acc (os.filterMap id) ∧ os.length = i + 1 ∧
      (∀ (i : Nat) (x : D) (o : Option D), l[i]? = some x → os[i]? = some o → (o = none ∧ Pt i x false) ∨ ∃ y, o = some y ∧ Pt i x true ∧ Pe i x y), fun H'' h => ⟨l.length - (i + 1), by omega, rfl, h⟩, fun x H2 hy => ?_⟩
    have hx : l[i]? = some l[i] := List.getElem?_eq_getElem hlt
    obtain ⟨G2, s2, g2, j2, r2⟩ := its.yld i l[i] _ G' H' x H2 g' s'.gg j' hx hy
    have hmem : l[i] ∈ l := List.getElem_mem hlt
    have mul1 : (kt + ke) * (i + 1) ≤ (kt + ke) * n := Nat.mul_le_mul_left _ (by omega)
    have mul2 : (kt + ke) * (i + 1) = (kt + ke) * i + (kt + ke) := Nat.mul_succ _ _
    have A2 := ((A.step s1 g1 j1).step (s'.trans s2) g2 j2).wipe vs
    refine htg l p0 _ hmem _ _ _ _ _ _ x A2 r2 _ fun σ3 w3 A3 => ⟨w3.trans wipe_wipe, ?_⟩
    refine ht l p0 _ _ hx _ (by omega) _ _ _ _ _ A3 _ fun b G3 H3 s3 g3 j3 pb => ?_
    have s13 := (s'.trans s2).trans s3
    have d2 := s2.hh Dl _ hDl mD (noTb_lst _)
    have d3 := s3.hh Dl _ d2 mD (noTb_lst _)
    have n2 := s2.gone gDl hDl (noTb_lst _)
    have n3 := s3.gone n2 d2 (noTb_lst _)
    have rA3 := (rA.mono s2.gg).mono s3.gg
    cases b with
    | false =>
      refine (if_neg Bool.false_ne_true).mpr ?_
      refine ⟨hlt, G3, acc, os ++ [none], s13, g3, W.mono (by omega) j3, d3, n3, by rw [List.filterMap_append]; simpa using rA3, by simp [ol], fun k y o h1 h2 => ?_⟩
      by_cases hk : k < i
      · rw [List.getElem?_append_left (by omega)] at h2
        exact oR k y o h1 h2
      · by_cases hk2 : k = i
        · subst hk2
          rw [List.getElem?_append_right (by omega), ol, Nat.sub_self] at h2
          cases h2
          rw [hx] at h1
          cases h1
          exact .inl ⟨rfl, pb⟩
        · rw [List.getElem?_eq_none (by simp; omega)] at h2; cases h2
    | true =>
      refine (if_pos rfl).mpr ?_
      refine he l p0 _ _ hx _ (by omega) pb _ _ _ _ _ (A3.step s3 g3 j3) _ fun y e G4 H4 s4 g4 j4 r4 pe => ?_
      have d4 := s4.hh Dl _ d3 mD (noTb_lst _)
      have n4 := s4.gone n3 d3 (noTb_lst _)
      refine ⟨acc, d4, ?_, hlt, G4, acc ++ [y], os ++ [some e], stp_upd (s13.trans s4) nD (noTb_lst _), gok_upd g4 n4, ?_, upd_same, n4, ?_, by simp [ol], fun k y o h1 h2 => ?_⟩
      · have := rA.len
        have h3 := List.length_filterMap_le id os
        exact Nat.lt_of_lt_of_le (Nat.lt_succ_of_le (by omega : acc.length ≤ 100000)) (by decide)
      · exact W.updl (W.mono (by omega) j4) mD d4
      · rw [List.filterMap_append]
        exact (rA3.mono s4.gg).app (.cons r4 .nil)
      · by_cases hk : k < i
        · rw [List.getElem?_append_left (by omega)] at h2
          exact oR k y o h1 h2
        · by_cases hk2 : k = i
          · subst hk2
            rw [List.getElem?_append_right (by omega), ol, Nat.sub_self] at h2
            cases h2
            rw [hx] at h1
            cases h1
            exact .inr ⟨_, rfl, pb, pe⟩
          · rw [List.getElem?_eq_none (by simp; omega)] at h2; cases h2
  · have e : i = l.length := by omega
    subst e
    refine .inl ⟨its.stop _ G' H' g' s'.gg ⟨_, j'⟩ (Nat.le_refl _), ?_⟩
    have hDn : Nf H Dl := s1.dom Dl nD
    have mul1 : (kt + ke) * l.length ≤ (kt + ke) * n := Nat.mul_le_mul_left _ hln
    exact q Dl acc _ G' H' (s1.trans s') g' (W.mono (by omega) j') hDl gDl hDn mD rA ⟨l, os, p0, ol, oR, rfl⟩
theorem en_lc {wi : TI} {tg : TG} {tt : TT} {te : TE} {vs : List Nat} {env : Env'} {k0 kt ke n : Nat} {P0 : List D → Prop} (envT : D → Env') (Pt : Nat → D → Bool → Prop) (Pe : Nat → D → D → Prop)
    (hs : SrcN W wi env c k0 P0) (hn : ∀ l, P0 l → l.length ≤ n) (hn2 : n ≤ 100000)
    (htg : ∀ l, P0 l → ∀ d ∈ l, TgC W tg vs d (wipeE env vs) (envT d)) (ht : ∀ l, P0 l → ∀ (i : Nat) (d : D), l[i]? = some d → ∀ c', c' + (kt + ke) ≤ c + (k0 + (kt + ke) * n) → ETN W tt (envT d) c' kt (Pt i d))
    (he : ∀ l, P0 l → ∀ (i : Nat) (d : D), l[i]? = some d → ∀ c', c' + ke ≤ c + (k0 + (kt + ke) * n) → Pt i d true → EN W te (envT d) c' ke (Pe i d)) :
    EN W (tLc wi tg tt te vs) env c (k0 + (kt + ke) * n) (fun d => ∃ (l : List D) (os : List (Option D)), P0 l ∧ os.length = l.length ∧ (∀ (i : Nat) (x : D) (o : Option D), l[i]? = some x → os[i]? = some o → (o = none ∧ Pt i x false) ∨ ∃ y, o = some y ∧ Pt i x true ∧ Pe i x y) ∧ d = .lst (os.filterMap id)) := MN.en (mn_lc envT Pt Pe hs hn hn2 htg ht he) fun ds ⟨l, os, h1, h2, h3, h4⟩ => ⟨l, os, h1, h2, h3, congrArg D.lst h4⟩
/-- the same where all is decided -/
theorem ed_lc {α : Type} (xs : List α) (emb : α → D) (envT : D → Env') (f : α → Bool) (g : α → D) {wi : TI} {tg : TG} {tt : TT} {te : TE} {vs : List Nat} {env : Env'} (hs : Src W wi env (xs.map emb)) (hz : xs.length ≤ 100000)
    (htg : ∀ x ∈ xs, TgC W tg vs (emb x) (wipeE env vs) (envT (emb x))) (ht : ∀ x ∈ xs, ET W tt (envT (emb x)) (f x)) (he : ∀ x ∈ xs, f x = true → ED W te (envT (emb x)) (g x)) :
    ED W (tLc wi tg tt te vs) env (.lst ((xs.filter f).map g)) := by
  refine EN.det fun c => ?_
  refine EN.imp (en_lc (c := c) (n := xs.length) (k0 := 0) (kt := 0) (ke := 0) envT (fun i _ b => ∃ x, xs[i]? = some x ∧ b = f x) (fun i _ e => ∃ x, xs[i]? = some x ∧ e = g x) hs.n (fun l h => by rw [h]; simp) hz (fun l h d hd => ?_) (fun l h i d hd c' _ => ?_) fun l h i d hd c' _ pt => ?_) (by simp) fun d h => ?_
  · rw [h] at hd
    obtain ⟨x, hx, rfl⟩ := List.mem_map.mp hd
    exact htg x hx
  · rw [h, List.getElem?_map] at hd
    cases e : xs[i]? with
    | none => rw [e] at hd; cases hd
    | some x =>
      rw [e] at hd
      cases hd
      intro G0 H0 σ G H A Q q
      exact ht x (List.mem_of_getElem? e) c' G0 H0 σ G H A Q fun G2 H2 s g j => q _ G2 H2 s g j ⟨x, rfl, rfl⟩
  · rw [h, List.getElem?_map] at hd
    obtain ⟨x, e, fx⟩ := pt
    rw [e] at hd
    cases hd
    intro G0 H0 σ G H A Q q
    exact he x (List.mem_of_getElem? e) fx.symm c' G0 H0 σ G H A Q fun v G2 H2 s g j r => q v _ G2 H2 s g j r ⟨x, e, rfl⟩
  · obtain ⟨l, os, rfl, ol, oR, rfl⟩ := h
    have e : os = xs.map fun x => if f x = true then some (g x) else none := by
      apply List.ext_getElem?
      intro i
      rw [List.getElem?_map]
      cases ex : xs[i]? with
      | none =>
        have := List.getElem?_eq_none_iff.mp ex
        rw [List.getElem?_eq_none (by rw [ol, List.length_map]; exact this)]
        rfl
      | some x =>
        have hi := (List.getElem?_eq_some_iff.mp ex).1
        have hi2 : i < os.length := by rw [ol, List.length_map]; exact hi
        rw [List.getElem?_eq_getElem hi2]
        have h2 := oR i (emb x) os[i] (by rw [List.getElem?_map, ex]; rfl) (List.getElem?_eq_getElem hi2)
        rw [ex] at h2
        rcases h2 with ⟨e1, y, e2, e3⟩ | ⟨y, e1, ⟨z, e2, e3⟩, w, e4, e5⟩
        · cases e2
          rw [e1]
          show some none = some (if f x = true then some (g x) else none)
          rw [← e3, if_neg Bool.false_ne_true]
        · cases e2
          cases e4
          rw [e1, e5]
          show some (some (g x)) = some (if f x = true then some (g x) else none)
          rw [← e3, if_pos rfl]
    rw [e]
    congr 1
    clear e ol oR hs hz htg ht he os c
    induction xs with
    | nil => rfl
    | cons x r ih =>
      rw [List.map_cons, List.filterMap_cons, List.filter_cons]
      by_cases hf : f x = true
      · rw [if_pos hf, if_pos hf, List.map_cons, ← ih]
        rfl
      · rw [if_neg hf, if_neg hf, ← ih]
        rfl
end
end Fx

set_option Elab.async false
set_option linter.all false
set_option maxRecDepth 100000
set_option maxHeartbeats 4000000
/-! Statements, defs. -/
namespace Fx
open PySem PySem.Spec PyProof.Rows L2
section
variable {T : List (Addr × Str)} {W : Wld T} {G H G1 H1 G2 H2 H0 : Hp} {G0 : Hp × Hp} {c c' k : Nat} {K : PySem.W.Frag}
structure Po where
  nx : Env' → Nat → Prop
  rt : D → Nat → Prop
  bk : Env' → Nat → Prop := fun _ _ => False
  ct : Env' → Nat → Prop := fun _ _ => False
  xE : XK := fun _ _ _ => False
  xP : Addr → List (Str × D) → Nat → Prop := fun _ _ _ => False
structure Fits (W : Wld T) (G0 : Hp × Hp) (H0 : Hp) (po : Po) (E : Ends) : Prop where
  nx : ∀ σ2 env2 c2 G2 H2, At W G0 H0 c2 G2 H2 σ2 env2 → po.nx env2 c2 → E.nx σ2 H2
  rt : ∀ v d c2 G2 H2, Stp W G0.2 H0 G2 H2 → GOk W G2 H2 → W.J c2 H2 → Rp G2 v d → po.rt d c2 → E.rt v H2
  bk : ∀ σ2 env2 c2 G2 H2, At W G0 H0 c2 G2 H2 σ2 env2 → po.bk env2 c2 → E.bk σ2 H2
  ct : ∀ σ2 env2 c2 G2 H2, At W G0 H0 c2 G2 H2 σ2 env2 → po.ct env2 c2 → E.ct σ2 H2
  xx : ∀ C fs d c2 G2 H2, Stp W G0.2 H0 G2 H2 → GOk W G2 H2 → W.J c2 H2 → XDat G2 d fs → po.xP C fs c2 → po.xE (.ref C) d H2
def Tr (W : Wld T) (ts : TS) (env : Env') (c : Nat) (po : Po) : Prop := ∀ G0 H0 σ G H, At W G0 H0 c G H σ env → ∀ E : Ends, Fits W G0 H0 po E → ts E σ H

theorem tr_seq {t u : TS} {env : Env'} {po : Po} (R : Env' → Nat → Prop) (h : Tr W t env c { po with nx := R }) (k : ∀ env2 c2, R env2 c2 → Tr W u env2 c2 po) : Tr W (tSeq t u) env c po := fun G0 H0 σ G H A E F =>
  h G0 H0 σ G H A { E with nx := u E } ⟨fun σ2 env2 c2 G2 H2 A2 r => k env2 c2 r G0 H0 σ2 G2 H2 A2 E F, F.rt, F.bk, F.ct, F.xx⟩
theorem tr_next {env : Env'} {po : Po} (h : po.nx env c) : Tr W tNext env c po := fun G0 H0 σ G H A E F => F.nx _ _ _ _ _ A h
theorem tr_break {env : Env'} {po : Po} (h : po.bk env c) : Tr W tBreak env c po := fun G0 H0 σ G H A E F => F.bk _ _ _ _ _ A h
theorem tr_cont {env : Env'} {po : Po} (h : po.ct env c) : Tr W tCont env c po := fun G0 H0 σ G H A E F => F.ct _ _ _ _ _ A h
/-- x = e -/
theorem tr_set1 {te : TE} {env : Env'} {po : Po} {i : Nat} {d : D} (h : ED W te env d) (k : po.nx (env.set i (.dat d)) c) : Tr W (tAsg te (gName i)) env c po := fun G0 H0 σ G H A E F =>
  h c G0 H0 σ G H A _ fun v G1 H1 s1 g1 j1 r1 => F.nx _ _ _ _ _ ((A.step s1 g1 j1).setD i r1) k
theorem tr_set {te : TE} {u : TS} {env : Env'} {po : Po} {i : Nat} {d : D} (h : ED W te env d) (k : Tr W u (env.set i (.dat d)) c po) : Tr W (tSeq (tAsg te (gName i)) u) env c po := fun G0 H0 σ G H A E F =>
  h c G0 H0 σ G H A _ fun v G1 H1 s1 g1 j1 r1 => k _ _ _ _ _ ((A.step s1 g1 j1).setD i r1) E F
theorem tr_setN1 {te : TE} {env : Env'} {po : Po} {i n : Nat} {P : D → Prop} (h : EN W te env c n P) (k : ∀ d, P d → po.nx (env.set i (.dat d)) (c + n)) : Tr W (tAsg te (gName i)) env c po := fun G0 H0 σ G H A E F =>
  h G0 H0 σ G H A _ fun v d G1 H1 s1 g1 j1 r1 p => F.nx _ _ _ _ _ ((A.step s1 g1 j1).setD i r1) (k d p)
theorem tr_setN {te : TE} {u : TS} {env : Env'} {po : Po} {i n : Nat} {P : D → Prop} (h : EN W te env c n P) (k : ∀ d, P d → Tr W u (env.set i (.dat d)) (c + n) po) : Tr W (tSeq (tAsg te (gName i)) u) env c po := fun G0 H0 σ G H A E F =>
  h G0 H0 σ G H A _ fun v d G1 H1 s1 g1 j1 r1 p => k d p _ _ _ _ _ ((A.step s1 g1 j1).setD i r1) E F
/-- any target -/
theorem tr_tgN {te : TE} {u : TS} {env : Env'} {po : Po} {n : Nat} {P : D → Prop} {g : TG} (h : EN W te env c n P) (k : ∀ d, P d → ∃ env2, TgOk W g d env env2 ∧ Tr W u env2 (c + n) po) : Tr W (tSeq (tAsg te g) u) env c po := fun G0 H0 σ G H A E F =>
  h G0 H0 σ G H A _ fun v d G1 H1 s1 g1 j1 r1 p => by
    obtain ⟨env2, tg, t⟩ := k d p
    exact tg _ _ _ _ _ _ _ (A.step s1 g1 j1) r1 _ fun σ' A' => t _ _ _ _ _ A' E F
theorem tr_tg {te : TE} {u : TS} {env env2 : Env'} {po : Po} {d : D} {g : TG} (h : ED W te env d) (tg : TgOk W g d env env2) (k : Tr W u env2 c po) : Tr W (tSeq (tAsg te g) u) env c po := fun G0 H0 σ G H A E F =>
  h c G0 H0 σ G H A _ fun v G1 H1 s1 g1 j1 r1 => tg _ _ _ _ _ _ _ (A.step s1 g1 j1) r1 _ fun σ' A' => k _ _ _ _ _ A' E F
/-- x, y = e1, e2 -/
theorem tr_par {ta : TA} {u : TS} {env : Env'} {po : Po} {i j : Nat} {d1 d2 : D} (h : EA W ta env [d1, d2]) (k : Tr W u ((env.set i (.dat d1)).set j (.dat d2)) c po) : Tr W (tSeq (tPar i j ta) u) env c po := fun G0 H0 σ G H A E F =>
  h c G0 H0 σ G H A _ fun vs G1 H1 s1 g1 j1 r1 => by
    cases r1 with
    | cons r1 r2 =>
      cases r2 with
      | cons r2 r3 =>
        cases r3
        exact ⟨_, _, rfl, k _ _ _ _ _ (((A.step s1 g1 j1).setD i r1).setD j r2) E F⟩
theorem tr_parN {ta : TA} {u : TS} {env : Env'} {po : Po} {i j n : Nat} {P : List D → Prop} (h : EAN W ta env c n P) (k : ∀ l, P l → ∃ d1 d2, l = [d1, d2] ∧ Tr W u ((env.set i (.dat d1)).set j (.dat d2)) (c + n) po) : Tr W (tSeq (tPar i j ta) u) env c po := fun G0 H0 σ G H A E F =>
  h G0 H0 σ G H A _ fun vs l G1 H1 s1 g1 j1 r1 p => by
    obtain ⟨d1, d2, rfl, t⟩ := k l p
    cases r1 with
    | cons r1 r2 =>
      cases r2 with
      | cons r2 r3 =>
        cases r3
        exact ⟨_, _, rfl, t _ _ _ _ _ (((A.step s1 g1 j1).setD i r1).setD j r2) E F⟩
theorem tr_par3N {ta : TA} {u : TS} {env : Env'} {po : Po} {i j m n : Nat} {P : List D → Prop} (h : EAN W ta env c n P) (k : ∀ l, P l → ∃ d1 d2 d3, l = [d1, d2, d3] ∧ Tr W u (((env.set i (.dat d1)).set j (.dat d2)).set m (.dat d3)) (c + n) po) : Tr W (tSeq (tPar3 i j m ta) u) env c po := fun G0 H0 σ G H A E F =>
  h G0 H0 σ G H A _ fun vs l G1 H1 s1 g1 j1 r1 p => by
    obtain ⟨d1, d2, d3, rfl, t⟩ := k l p
    cases r1 with
    | cons r1 r2 =>
      cases r2 with
      | cons r2 r3 =>
        cases r3 with
        | cons r3 r4 =>
          cases r4
          exact ⟨_, _, _, rfl, t _ _ _ _ _ ((((A.step s1 g1 j1).setD i r1).setD j r2).setD m r3) E F⟩
/-- what was just made, put into a slot; it will change -/
theorem At.setMX {σ : L2.St} {env : Env'} {p : Addr} {o : HO} {s : Slot} (A : At W G0 H0 c G H σ env) (i : Nat) (hi : i < env.length) (st : Stp W G H G2 H2) (g : GOk W G2 H2) (j : W.J c' H2) (hp : H2 p = some o) (gp : G2 p = none) (nf : Nf H p) (m : ¬ W.M p) (r : RpM G2 o s) (hs : s.isM = true) :
    At W G0 H0 c' G2 H2 (σ.set i (some (.ref p))) (env.set i s) := by
  have A' := A.step st g j
  have h0 : Nf H0 p := A.st.dom p nf
  have ap : ∀ (k : Nat) (t : Slot) (l : Addr), env[k]? = some t → t.isM = true → σ[k]? = some (some (.ref l)) → l ≠ p := fun k t l h ht h' e => by
    obtain ⟨l', o', e1, hl, _, r', _⟩ := A.env.mus k t h ht
    rw [h'] at e1
    cases e1
    rw [e] at hl
    exact nf_no hl r'.no nf
  have self : (σ.set i (some (V.ref p)))[i]? = some (some (.ref p)) := List.getElem?_set_self (by rw [A.env.len]; exact hi)
  refine ⟨A'.st, A'.sb, g, j, by rw [List.length_set, List.length_set, A.env.len], fun k e h => ?_, fun k t h ht => ?_, fun a b t u l ne h1 h2 m1 m2 h3 => ?_⟩
  · by_cases hk : k = i
    · subst hk
      rw [List.getElem?_set_self hi] at h
      cases h
      cases hs
    · rw [List.getElem?_set_ne (Ne.symm hk)] at h ⊢
      exact A'.env.dat k e h
  · by_cases hk : k = i
    · subst hk
      rw [List.getElem?_set_self hi] at h
      cases h
      exact ⟨p, o, self, hp, gp, r, m, h0⟩
    · rw [List.getElem?_set_ne (Ne.symm hk)] at h ⊢
      exact A'.env.mus k t h ht
  · by_cases ha : a = i
    · subst ha
      rw [self] at h3
      cases h3
      intro h4
      rw [List.getElem?_set_ne ne] at h2 h4
      exact ap b u p h2 m2 h4 rfl
    · by_cases hb : b = i
      · subst hb
        rw [self]
        intro h4
        cases h4
        rw [List.getElem?_set_ne (Ne.symm ha)] at h1 h3
        exact ap a t p h1 m1 h3 rfl
      · rw [List.getElem?_set_ne (Ne.symm ha)] at h1 h3
        rw [List.getElem?_set_ne (Ne.symm hb)] at h2 ⊢
        exact A'.env.apart a b t u l ne h1 h2 m1 m2 h3
/-- a new list that will change -/
theorem At.setM {σ : L2.St} {env : Env'} {p : Addr} {xs : List V} {ds : List D} (A : At W G0 H0 c G H σ env) (i : Nat) (hp : H p = none) (hi : i < env.length) (r : RpL G xs ds) : At W G0 H0 c G (upd H p (.lst xs)) (σ.set i (some (.ref p))) (env.set i (.mu ds)) :=
  A.setMX i hi (stp_upd Stp.refl (nf_none hp) (noTb_lst _)) (gok_upd A.gok (A.gok.none hp)) (J_new A.j hp) upd_same (A.gok.none hp) (nf_none hp) (fun m => W.mtr A.j m (nf_none hp)) (.mu r) rfl
/-- a new dict that will change -/
theorem At.setMd {σ : L2.St} {env : Env'} {p : Addr} {xs : List (Key × V)} {kvs : List (Key × D)} (A : At W G0 H0 c G H σ env) (i : Nat) (hp : H p = none) (hi : i < env.length) (r : RpK G xs kvs) : At W G0 H0 c G (upd H p (.dK xs)) (σ.set i (some (.ref p))) (env.set i (.md kvs)) :=
  A.setMX i hi (stp_upd Stp.refl (nf_none hp) (noTb_dK _)) (gok_upd A.gok (A.gok.none hp)) (J_new A.j hp) upd_same (A.gok.none hp) (nf_none hp) (fun m => W.mtr A.j m (nf_none hp)) (.md r) rfl
/-- a fresh list, put into a slot -/
theorem At.setMN {σ : L2.St} {env : Env'} {p : Addr} {xs : List V} {ds : List D} (A : At W G0 H0 c G H σ env) (i : Nat) (hi : i < env.length) (s : Stp W G H G2 H2) (g : GOk W G2 H2) (j : W.J c' H2) (hp : H2 p = some (.lst xs)) (gp : G2 p = none) (nf : Nf H p) (m : ¬ W.M p) (r : RpL G2 xs ds) :
    At W G0 H0 c' G2 H2 (σ.set i (some (.ref p))) (env.set i (.mu ds)) := A.setMX i hi s g j hp gp nf m (.mu r) rfl
theorem tr_setMN1 {te : TE} {env : Env'} {po : Po} {i n : Nat} {P : List D → Prop} (hi : i < env.length) (h : MN W te env c n P) (k : ∀ ds, P ds → po.nx (env.set i (.mu ds)) (c + n)) : Tr W (tAsg te (gName i)) env c po := fun G0 H0 σ G H A E F =>
  h G0 H0 σ G H A _ fun p xs ds G2 H2 s g j hp gp nf m r pd => F.nx _ _ _ _ _ (A.setMN i hi s g j hp gp nf m r) (k ds pd)
theorem tr_setMN {te : TE} {u : TS} {env : Env'} {po : Po} {i n : Nat} {P : List D → Prop} (hi : i < env.length) (h : MN W te env c n P) (k : ∀ ds, P ds → Tr W u (env.set i (.mu ds)) (c + n) po) : Tr W (tSeq (tAsg te (gName i)) u) env c po :=
  tr_seq (fun e2 c2 => Tr W u e2 c2 po) (tr_setMN1 hi h k) fun _ _ h => h
theorem tr_new {u : TS} {env : Env'} {po : Po} {i : Nat} (hi : i < env.length) (k : Tr W u (env.set i (.mu [])) c po) : Tr W (tSeq (tAsg (tLst tNil) (gName i)) u) env c po := fun G0 H0 σ G H A E F =>
  ⟨Nat.zero_le _, fun p hp => k _ _ _ _ _ (A.setM i hp hi .nil) E F⟩
theorem tr_par_new {te : TE} {u : TS} {env : Env'} {po : Po} {i j : Nat} {d : D} (hi : i < env.length) (ne : i ≠ j) (h : ED W te (env.set i (.mu [])) d) (h' : ∀ σ v H Q, te (σ.set i v) H Q → te σ H Q) (k : Tr W u ((env.set i (.mu [])).set j (.dat d)) c po) : Tr W (tSeq (tPar i j (tCons (tLst tNil) (tCons te tNil))) u) env c po := fun G0 H0 σ G H A E F =>
  ⟨Nat.zero_le _, fun p hp => h' σ (some (.ref p)) _ _ (h c _ _ _ _ _ (A.setM i hp hi .nil) _ fun v G1 H1 s1 g1 j1 r1 => ⟨_, _, rfl, k _ _ _ _ _ (((A.setM i hp hi .nil).step s1 g1 j1).setD j r1) E F⟩)⟩
/-- what the slot holds is changed -/
theorem At.chX {σ : L2.St} {env : Env'} {l : Addr} {o : HO} {s s' : Slot} {i : Nat} (A : At W G0 H0 c G H σ env) (he : env[i]? = some s) (hs : s.isM = true) (hl : σ[i]? = some (some (.ref l))) (hj : W.J c (upd H l o)) (r : RpM G o s') (hs' : s'.isM = true) : At W G0 H0 c G (upd H l o) σ (env.set i s') := by
  obtain ⟨l', o', e1, hl', gl, rr, m, h0⟩ := A.env.mus i s he hs
  rw [hl] at e1
  cases e1
  have hi : i < env.length := (List.getElem?_eq_some_iff.mp he).1
  refine ⟨stp_upd A.st h0 r.no, A.sb, gok_upd A.gok gl, hj, by rw [List.length_set, A.env.len], fun k e h => ?_, fun k t h ht => ?_, fun a b t u l1 ne h1 h2 m1 m2 h3 => ?_⟩
  · by_cases hk : k = i
    · subst hk
      rw [List.getElem?_set_self hi] at h
      cases h
      cases hs'
    · rw [List.getElem?_set_ne (Ne.symm hk)] at h
      exact A.env.dat k e h
  · by_cases hk : k = i
    · subst hk
      rw [List.getElem?_set_self hi] at h
      cases h
      exact ⟨_, o, hl, upd_same, gl, r, m, h0⟩
    · rw [List.getElem?_set_ne (Ne.symm hk)] at h
      obtain ⟨l2, zs, e, hl2, q⟩ := A.env.mus k t h ht
      have n : l2 ≠ l := fun z => by
        subst z
        exact A.env.apart i k s t l2 (Ne.symm hk) he h hs ht hl e
      exact ⟨l2, zs, e, by rw [upd_ne n]; exact hl2, q⟩
  · have key : ∀ (k : Nat) (x : Slot), (env.set i s')[k]? = some x → x.isM = true → ∃ y, env[k]? = some y ∧ y.isM = true := fun k x h hx => by
      by_cases hk : k = i
      · rw [hk]
        exact ⟨s, he, hs⟩
      · rw [List.getElem?_set_ne (Ne.symm hk)] at h
        exact ⟨x, h, hx⟩
    obtain ⟨y1, z1, w1⟩ := key a _ h1 m1
    obtain ⟨y2, z2, w2⟩ := key b _ h2 m2
    exact A.env.apart a b y1 y2 l1 ne z1 z2 w1 w2 h3
/-- the list is changed -/
theorem At.chM {σ : L2.St} {env : Env'} {l : Addr} {ys : List V} {ds es : List D} {i : Nat} (A : At W G0 H0 c G H σ env) (he : env[i]? = some (.mu ds)) (hs : σ[i]? = some (some (.ref l))) (r : RpL G ys es) : At W G0 H0 c G (upd H l (.lst ys)) σ (env.set i (.mu es)) := by
  obtain ⟨l', xs', e1, hl, gl, rr, m, h0⟩ := A.env.mu i ds he
  rw [hs] at e1
  cases e1
  exact A.chX he rfl hs (W.updl A.j m hl) (.mu r) rfl
/-- the dict is changed -/
theorem At.chD {σ : L2.St} {env : Env'} {l : Addr} {ys : List (Key × V)} {ds es : List (Key × D)} {i : Nat} (A : At W G0 H0 c G H σ env) (he : env[i]? = some (.md ds)) (hs : σ[i]? = some (some (.ref l))) (r : RpK G ys es) : At W G0 H0 c G (upd H l (.dK ys)) σ (env.set i (.md es)) := by
  obtain ⟨l', xs', e1, hl, gl, rr, m, h0⟩ := A.env.md i ds he
  rw [hs] at e1
  cases e1
  exact A.chX he rfl hs (W.upddk A.j m hl) (.md r) rfl
theorem ev_md {env : Env'} {ds : List (Key × D)} {i : Nat} {σ : L2.St} (A : At W G0 H0 c G H σ env) (he : env[i]? = some (.md ds)) : ∃ l xs, σ[i]? = some (some (.ref l)) ∧ H l = some (.dK xs) ∧ RpK G xs ds ∧ ¬ W.M l ∧ G l = none := by
  obtain ⟨l', xs', e1, hl, gl, rr, m, h0⟩ := A.env.md i ds he
  exact ⟨l', xs', e1, hl, rr, m, gl⟩
theorem ev_mu {env : Env'} {ds : List D} {i : Nat} {σ : L2.St} (A : At W G0 H0 c G H σ env) (he : env[i]? = some (.mu ds)) : ∃ l xs, σ[i]? = some (some (.ref l)) ∧ H l = some (.lst xs) ∧ RpL G xs ds ∧ ¬ W.M l ∧ G l = none := by
  obtain ⟨l', xs', e1, hl, gl, rr, m, h0⟩ := A.env.mu i ds he
  exact ⟨l', xs', e1, hl, rr, m, gl⟩
theorem app_core {te : TE} {env : Env'} {i n : Nat} {ds : List D} {P : D → Prop} (he : env[i]? = some (.mu ds)) (hz : ds.length < 100000) (h : EN W te env c n P) {σ : L2.St} (A : At W G0 H0 c G H σ env) {Q : Hp → Prop}
    (q : ∀ d G2 H2, P d → At W G0 H0 (c + n) G2 H2 σ (env.set i (.mu (ds ++ [d]))) → Q H2) : tBM K "list" rAppend (tVar i) (tCons te tNil) σ H fun _ H1 => Q H1 := by
  obtain ⟨l, xs, e1, hl, rr, m, gl⟩ := ev_mu A he
  refine ⟨_, e1, .inl ⟨rfl, xs, SqL.of hl⟩, ?_⟩
  refine h _ _ _ _ _ A _ fun v d G1 H1 s1 g1 j1 r1 p => ?_
  have hl1 := s1.hh l _ hl m (noTb_lst _)
  refine ⟨l, xs, v, rfl, rfl, hl1, Nat.lt_of_lt_of_le (by rw [rr.len]; exact hz) (by decide), q d G1 _ p ?_⟩
  exact (A.step s1 g1 j1).chM he e1 ((rr.mono s1.gg).app (.cons r1 .nil))
/-- x.append(e) -/
theorem tr_app {te : TE} {u : TS} {env : Env'} {po : Po} {i : Nat} {ds : List D} {d : D} (he : env[i]? = some (.mu ds)) (hz : ds.length < 100000) (h : ED W te env d) (k : Tr W u (env.set i (.mu (ds ++ [d]))) c po) : Tr W (tSeq (tDrop (tBM K "list" rAppend (tVar i) (tCons te tNil))) u) env c po := fun G0 H0 σ G H A E F =>
  app_core he hz h.n A fun d' G2 H2 p A2 => by
    subst p
    exact k _ _ _ _ _ A2 E F
theorem tr_app1 {te : TE} {env : Env'} {po : Po} {i : Nat} {ds : List D} {d : D} (he : env[i]? = some (.mu ds)) (hz : ds.length < 100000) (h : ED W te env d) (k : po.nx (env.set i (.mu (ds ++ [d]))) c) : Tr W (tDrop (tBM K "list" rAppend (tVar i) (tCons te tNil))) env c po := fun G0 H0 σ G H A E F =>
  app_core he hz h.n A fun d' G2 H2 p A2 => by
    subst p
    exact F.nx _ _ _ _ _ A2 k
theorem tr_appN1 {te : TE} {env : Env'} {po : Po} {i n : Nat} {ds : List D} {P : D → Prop} (he : env[i]? = some (.mu ds)) (hz : ds.length < 100000) (h : EN W te env c n P) (k : ∀ d, P d → po.nx (env.set i (.mu (ds ++ [d]))) (c + n)) : Tr W (tDrop (tBM K "list" rAppend (tVar i) (tCons te tNil))) env c po := fun G0 H0 σ G H A E F =>
  app_core he hz h A fun d' G2 H2 p A2 => F.nx _ _ _ _ _ A2 (k d' p)
/-- x[e1] = e2 -/
theorem tr_setL {te ti : TE} {u : TS} {env : Env'} {po : Po} {i n : Nat} {j : Nat} {ds : List D} {P : D → Prop} (he : env[i]? = some (.mu ds)) (h : EN W te env c n P) (hi : ED W ti env (.int (j : Nat))) (hj : j < ds.length) (k : ∀ d, P d → Tr W u (env.set i (.mu (ds.set j d))) (c + n) po) : Tr W (tSeq (tAsg te (gSub (tVar i) ti rSetL)) u) env c po := fun G0 H0 σ G H A E F => by
  obtain ⟨l, xs, e1, hl, rr, m, gl⟩ := ev_mu A he
  refine h _ _ _ _ _ A _ fun v d G1 H1 s1 g1 j1 r1 p => ?_
  refine ⟨_, e1, ?_⟩
  refine hi _ _ _ _ _ _ (A.step s1 g1 j1) _ fun v2 G2 H2 s2 g2 j2 r2 => ?_
  cases r2
  have hl2 := (s1.trans s2).hh l _ hl m (noTb_lst _)
  refine ⟨l, xs, j, j, rfl, rfl, hl2, ?_, ?_⟩
  · have : j < xs.length := by rw [rr.len]; exact hj
    unfold ixN
    rw [if_pos (by omega), if_pos (by omega)]
    simp
  · exact k d p _ _ _ _ _ (((A.step s1 g1 j1).step s2 g2 j2).chM he e1 (RpL.set (r1.mono s2.gg) j (rr.mono (s1.trans s2).gg))) E F
/-- from now on the list stands still -/
theorem At.frz {σ : L2.St} {env : Env'} {ds : List D} {i : Nat} (A : At W G0 H0 c G H σ env) (he : env[i]? = some (.mu ds)) : ∃ G', At W G0 H0 c G' H σ (env.set i (.dat (.lst ds))) := by
  obtain ⟨l, xs, e1, hl, gl, rr, m, h0⟩ := A.env.mu i ds he
  have hi : i < env.length := (List.getElem?_eq_some_iff.mp he).1
  have sn := same_new gl (HO.lst xs)
  have key : ∀ (k : Nat) (x : Slot), (env.set i (.dat (.lst ds)))[k]? = some x → x.isM = true → k ≠ i ∧ env[k]? = some x := fun k x h hx => by
    by_cases hk : k = i
    · subst hk
      rw [List.getElem?_set_self hi] at h
      cases h
      cases hx
    · rw [List.getElem?_set_ne (Ne.symm hk)] at h
      exact ⟨hk, h⟩
  refine ⟨upd G l (.lst xs), stp_frz A.st h0 gl, A.sb.trans sn, gok_frz A.gok hl (noTb_lst _) m, A.j, by rw [List.length_set, A.env.len], fun k e h => ?_, fun k es h hes => ?_, fun a b t u l1 ne h1 h2 m1 m2 h3 => ?_⟩
  · by_cases hk : k = i
    · subst hk
      rw [List.getElem?_set_self hi] at h
      cases h
      exact ⟨_, e1, .lst upd_same (rr.mono sn)⟩
    · rw [List.getElem?_set_ne (Ne.symm hk)] at h
      obtain ⟨v, q1, q2⟩ := A.env.dat k e h
      exact ⟨v, q1, q2.mono sn⟩
  · obtain ⟨hk, h⟩ := key k es h hes
    obtain ⟨l2, zs, e, hl2, gl2, q, m2⟩ := A.env.mus k es h hes
    have n : l2 ≠ l := fun z => by
      subst z
      exact A.env.apart i k _ es l2 (Ne.symm hk) he h rfl hes e1 e
    exact ⟨l2, zs, e, hl2, by rw [upd_ne n]; exact gl2, q.mono sn, m2⟩
  · exact A.env.apart a b _ _ l1 ne (key a _ h1 m1).2 (key b _ h2 m2).2 m1 m2 h3
theorem tr_frz {t : TS} {env : Env'} {po : Po} {i : Nat} {ds : List D} (he : env[i]? = some (.mu ds)) (k : Tr W t (env.set i (.dat (.lst ds))) c po) : Tr W t env c po := fun G0 H0 σ G H A E F => by
  obtain ⟨G', A'⟩ := A.frz he
  exact k _ _ _ _ _ A' E F
/-- return e -/
theorem tr_ret {te : TE} {env : Env'} {po : Po} {d : D} (h : ED W te env d) (k : po.rt d c) : Tr W (tRet te) env c po := fun G0 H0 σ G H A E F =>
  h c G0 H0 σ G H A _ fun v G1 H1 s1 g1 j1 r1 => F.rt v d c G1 H1 (A.st.trans s1) g1 j1 r1 k
theorem tr_retN {te : TE} {env : Env'} {po : Po} {n : Nat} {P : D → Prop} (h : EN W te env c n P) (k : ∀ d, P d → po.rt d (c + n)) : Tr W (tRet te) env c po := fun G0 H0 σ G H A E F =>
  h G0 H0 σ G H A _ fun v d G1 H1 s1 g1 j1 r1 p => F.rt v d _ G1 H1 (A.st.trans s1) g1 j1 r1 (k d p)
/-- an expression -/
theorem tr_drop {te : TE} {u : TS} {env : Env'} {po : Po} {d : D} (h : ED W te env d) (k : Tr W u env c po) : Tr W (tSeq (tDrop te) u) env c po := fun G0 H0 σ G H A E F =>
  h c G0 H0 σ G H A _ fun v G1 H1 s1 g1 j1 r1 => k _ _ _ _ _ (A.step s1 g1 j1) E F
/-- if -/
theorem tr_if {tt : TT} {t u : TS} {env : Env'} {po : Po} {b : Bool} (h : ET W tt env b) (h1 : b = true → Tr W t env c po) (h2 : b = false → Tr W u env c po) : Tr W (tIfS tt t u) env c po := fun G0 H0 σ G H A E F =>
  h c G0 H0 σ G H A _ fun G1 H1 s1 g1 j1 => by
    cases b with
    | true => exact h1 rfl _ _ _ _ _ (A.step s1 g1 j1) E F
    | false => exact h2 rfl _ _ _ _ _ (A.step s1 g1 j1) E F
/-- if .., then the rest -/
theorem tr_ifs {tt : TT} {t u z : TS} {env : Env'} {po : Po} {b : Bool} (h : ET W tt env b) (h1 : b = true → Tr W t env c { po with nx := fun e2 c2 => Tr W z e2 c2 po }) (h2 : b = false → Tr W u env c { po with nx := fun e2 c2 => Tr W z e2 c2 po }) : Tr W (tSeq (tIfS tt t u) z) env c po :=
  tr_seq (fun e2 c2 => Tr W z e2 c2 po) (tr_if h h1 h2) fun _ _ r => r
/-- if .. without else that leaves the def -/
theorem tr_when {tt : TT} {t z : TS} {env : Env'} {po : Po} {b : Bool} (h : ET W tt env b) (h1 : b = true → Tr W t env c { po with nx := fun e2 c2 => Tr W z e2 c2 po }) (h2 : b = false → Tr W z env c po) : Tr W (tSeq (tIfS tt t tNext) z) env c po :=
  tr_ifs h h1 fun e => tr_next (h2 e)
theorem tr_whenN {tt : TT} {t z : TS} {env : Env'} {po : Po} {n : Nat} {P : Bool → Prop} (h : ETN W tt env c n P) (h1 : P true → Tr W t env (c + n) { po with nx := fun e2 c2 => Tr W z e2 c2 po }) (h2 : P false → Tr W z env (c + n) po) : Tr W (tSeq (tIfS tt t tNext) z) env c po := fun G0 H0 σ G H A E F =>
  h G0 H0 σ G H A _ fun b G1 H1 s1 g1 j1 p => by
    cases b with
    | true => exact h1 p _ _ _ _ _ (A.step s1 g1 j1) { E with nx := z E } ⟨fun σ2 env2 c2 G2 H2 A2 r => r _ _ _ _ _ A2 E F, F.rt, F.bk, F.ct, F.xx⟩
    | false => exact h2 p _ _ _ _ _ (A.step s1 g1 j1) E F
/-- for -/
theorem tr_for {wi : TI} {g : TG} {tb : TS} {env : Env'} {po : Po} {n : Nat} {P : List D → Prop} (hs : SrcN W wi env c n P) (k : ∀ items, P items → ∃ Iv : Nat → Env' → Nat → Prop, Iv 0 env (c + n) ∧
      (∀ (i : Nat) (d : D) e1 c1, items[i]? = some d → Iv i e1 c1 → ∃ e2, TgOk W g d e1 e2 ∧ Tr W tb e2 c1 { po with nx := Iv (i + 1), ct := Iv (i + 1), bk := po.nx }) ∧ (∀ e1 c1, Iv items.length e1 c1 → po.nx e1 c1)) : Tr W (tFor wi g tb) env c po := by
  intro G0 H0 σ G H A E F
  refine hs G0 H0 σ G H A _ fun J G1 H1 items s1 g1 j1 p its => ?_
  obtain ⟨Iv, h0, hstep, hend⟩ := k items p
  refine ⟨fun i m σ' H' => m = items.length - i ∧ i ≤ items.length ∧ ∃ G' e1 c1, Same G1 G' ∧ At W G0 H0 c1 G' H' σ' e1 ∧ Iv i e1 c1, ⟨items.length, by simp, Nat.zero_le _, G1, env, c + n, fun _ _ h => h, A.step s1 g1 j1, h0⟩, ?_⟩
  rintro i m σ' H' ⟨rfl, hi, G', e1, c1, sg, A', iv⟩
  by_cases hlt : i < items.length
  · refine .inr ⟨its.go i G' H' A'.gok sg ⟨_, A'.j⟩ hlt, fun σ'' H'' => i + 1 ≤ items.length ∧ ∃ G' e1 c1, Same G1 G' ∧ At W G0 H0 c1 G' H'' σ'' e1 ∧ Iv (i + 1) e1 c1, fun σ'' H'' h => ⟨items.length - (i + 1), by omega, rfl, h⟩, fun x H2 hy => ?_⟩
    have hx : items[i]? = some items[i] := List.getElem?_eq_getElem hlt
    obtain ⟨G2, s2, g2, j2, r2⟩ := its.yld i items[i] _ G' H' x H2 A'.gok sg A'.j hx hy
    obtain ⟨e2, tg, t⟩ := hstep i items[i] e1 c1 hx iv
    refine tg _ _ _ _ _ _ _ (A'.step s2 g2 j2) r2 _ fun σ3 A3 => ?_
    refine t (G1, G0.2) H0 σ3 G2 H2 ⟨A3.st, sg.trans s2.gg, A3.gok, A3.j, A3.env⟩ _ ⟨fun σ4 e4 c4 G4 H4 A4 q => ?_, fun v d c4 G4 H4 st g j r q => F.rt v d c4 G4 H4 st g j r q, fun σ4 e4 c4 G4 H4 A4 q => ?_, fun σ4 e4 c4 G4 H4 A4 q => ?_, fun C fs d c4 G4 H4 st g j x q => F.xx C fs d c4 G4 H4 st g j x q⟩
    · exact ⟨hlt, G4, e4, c4, A4.sb, ⟨A4.st, A.sb.trans (s1.gg.trans A4.sb), A4.gok, A4.j, A4.env⟩, q⟩
    · exact F.nx _ _ _ _ _ ⟨A4.st, A.sb.trans (s1.gg.trans A4.sb), A4.gok, A4.j, A4.env⟩ q
    · exact ⟨hlt, G4, e4, c4, A4.sb, ⟨A4.st, A.sb.trans (s1.gg.trans A4.sb), A4.gok, A4.j, A4.env⟩, q⟩
  · have e : i = items.length := by omega
    subst e
    exact .inl ⟨its.stop _ G' H' A'.gok sg ⟨_, A'.j⟩ (Nat.le_refl _), F.nx _ _ _ _ _ A' (hend e1 c1 iv)⟩
end
end Fx

set_option Elab.async false
set_option linter.all false
set_option maxRecDepth 100000
set_option maxHeartbeats 4000000
/-! Operators and built-ins on data; what a def promises. -/
namespace Fx
open PySem PySem.Spec PyProof.Rows L2

/-! ### plain data: ==, != -/
mutual
def D.py : D → PyData
  | .non => .none
  | .bl b => .bool b
  | .int i => .int i
  | .str s => .str s
  | .tup ds => .tuple (pyL ds)
  | .lst ds => .list (pyL ds)
  | .dic _ => .dict []
  | .raw _ => .dict []
  | .exc _ _ => .dict []
def pyL : List D → List PyData
  | [] => []
  | d :: ds => D.py d :: pyL ds
end
mutual
/-- no deeper than n, no dict within -/
def D.ok : Nat → D → Bool
  | _, .non => true
  | _, .bl _ => true
  | _, .int _ => true
  | _, .str s => PyData.canLay0 (.str s)
  | n + 1, .tup ds => okL n ds
  | n + 1, .lst ds => okL n ds
  | 0, .tup _ => false
  | 0, .lst _ => false
  | _, .dic _ => false
  | _, .raw _ => false
  | _, .exc _ _ => false
def okL : Nat → List D → Bool
  | _, [] => true
  | n, d :: ds => D.ok n d && okL n ds
end
mutual
theorem lay_of_ok : ∀ {n : Nat} {d : D}, D.ok n d = true → PyData.canLay0 d.py = true ∧ d.py.depth ≤ n
  | n, .non, _ => ⟨rfl, by rw [D.py, PyData.depth]; omega⟩
  | n, .bl _, _ => ⟨rfl, by rw [D.py, PyData.depth]; omega⟩
  | n, .int _, _ => ⟨rfl, by rw [D.py, PyData.depth]; omega⟩
  | n, .str s, h => ⟨by rw [D.ok] at h; rw [D.py]; exact h, by rw [D.py, PyData.depth]; omega⟩
  | n + 1, .tup ds, h => by
    rw [D.ok] at h
    obtain ⟨h1, h2⟩ := lay_of_okL h
    exact ⟨by rw [D.py, PyData.canLay0]; exact h1, by rw [D.py, PyData.depth]; omega⟩
  | n + 1, .lst ds, h => by
    rw [D.ok] at h
    obtain ⟨h1, h2⟩ := lay_of_okL h
    exact ⟨by rw [D.py, PyData.canLay0]; exact h1, by rw [D.py, PyData.depth]; omega⟩
  | 0, .tup _, h => by rw [D.ok] at h; cases h
  | 0, .lst _, h => by rw [D.ok] at h; cases h
  | n, .dic _, h => by rw [D.ok] at h; cases h
  | n, .raw _, h => by rw [D.ok] at h; cases h
  | n, .exc _ _, h => by rw [D.ok] at h; cases h
theorem lay_of_okL : ∀ {n : Nat} {ds : List D}, okL n ds = true → PyData.canLayAll0 (pyL ds) = true ∧ PyData.depthAll (pyL ds) ≤ n
  | n, [], _ => ⟨rfl, by rw [pyL, PyData.depthAll]; omega⟩
  | n, d :: ds, h => by
    rw [okL, Bool.and_eq_true] at h
    obtain ⟨h1, h2⟩ := lay_of_ok h.1
    obtain ⟨h3, h4⟩ := lay_of_okL h.2
    exact ⟨by rw [pyL, PyData.canLayAll0, h1, h3]; rfl, by rw [pyL, PyData.depthAll]; omega⟩
end
theorem shaped_of_ok {n : Nat} {d : D} (h : D.ok n d = true) (hn : n ≤ 64 := by decide) : SeqAt.shaped d.py = true := by
  obtain ⟨h1, h2⟩ := lay_of_ok h
  unfold SeqAt.shaped
  rw [h1, decide_eq_true (Nat.le_trans h2 hn)]; rfl
theorem okL_map {α : Type} {n : Nat} {f : α → D} (h : ∀ x, D.ok n (f x) = true) : ∀ xs : List α, okL n (xs.map f) = true
  | [] => by rw [List.map_nil, okL]
  | x :: xs => by rw [List.map_cons, okL, h x, okL_map h xs]; rfl
theorem ok_int {n : Nat} {i : Int} : D.ok n (.int i) = true := by cases n <;> rfl
theorem ok_bl {n : Nat} {i : Bool} : D.ok n (.bl i) = true := by cases n <;> rfl
theorem ok_non {n : Nat} : D.ok n .non = true := by cases n <;> rfl
theorem okL_nil {n : Nat} : okL n [] = true := by rw [okL]
theorem okL_cons {n : Nat} {d : D} {ds : List D} (h : D.ok n d = true) (h2 : okL n ds = true) : okL n (d :: ds) = true := by rw [okL, h, h2]; rfl
/-- a tuple of ints, a list of such -/
abbrev dI (ns : List Int) : D := .tup (ns.map .int)
abbrev dLI (ns : List Int) : D := .lst (ns.map .int)
abbrev dLL (ls : List (List Int)) : D := .lst (ls.map dI)
theorem ok_dI {ns : List Int} : D.ok 1 (dI ns) = true := by
  show okL 0 _ = true
  exact okL_map (fun _ => ok_int) _
theorem ok_dI2 {ns : List Int} : D.ok 2 (dI ns) = true := by
  show okL 1 _ = true
  exact okL_map (fun _ => ok_int) _
theorem ok_dLI {ns : List Int} : D.ok 1 (dLI ns) = true := by
  show okL 0 _ = true
  exact okL_map (fun _ => ok_int) _
theorem ok_dLL {ns : List (List Int)} : D.ok 2 (dLL ns) = true := by
  show okL 1 _ = true
  exact okL_map (fun _ => ok_dI) _
section
variable {T : List (Addr × Str)} {W : Wld T} {G H G1 H1 G2 H2 H0 : Hp} {G0 : Hp × Hp} {c c' k : Nat} {K : PySem.W.Frag}
mutual
theorem Rp.dp (g : GOk W G H) : ∀ {n : Nat} {v : V} {d : D}, D.ok n d = true → Rp G v d → Dp K H v d.py
  | _, _, _, _, .non => by rw [D.py]; exact .non
  | _, _, _, _, .bl b => by rw [D.py]; exact .bl b
  | _, _, _, _, .int i => by rw [D.py]; exact .int i
  | _, _, _, _, .str s => by rw [D.py]; exact .str s
  | n, _, _, h, .raw _ => by rw [D.ok] at h; cases h
  | n, _, _, h, .dic _ _ => by rw [D.ok] at h; cases h
  | n, _, _, h, .exc0 _ => by rw [D.ok] at h; cases h
  | n, _, _, h, .exc1 _ _ _ => by rw [D.ok] at h; cases h
  | 0, _, _, h, .tup _ _ => by rw [D.ok] at h; cases h
  | 0, _, _, h, .lst _ _ => by rw [D.ok] at h; cases h
  | n + 1, _, _, h, .tup ha r => by
    rw [D.ok] at h
    rw [D.py]
    exact .tup (sqT_of g ha) (RpL.dp g h r)
  | n + 1, _, _, h, .lst ha r => by
    rw [D.ok] at h
    rw [D.py]
    exact .lst (sqL_of g ha) (RpL.dp g h r)
theorem RpL.dp (g : GOk W G H) : ∀ {n : Nat} {vs : List V} {ds : List D}, okL n ds = true → RpL G vs ds → DpAll K H vs (pyL ds)
  | _, _, _, _, .nil => by rw [pyL]; exact .nil
  | n, _, _, h, .cons r rs => by
    rw [okL, Bool.and_eq_true] at h
    rw [pyL]
    exact .cons (Rp.dp g h.1 r) (RpL.dp g h.2 rs)
end
def D.eqv (a b : D) : Bool := PyData.eqv a.py b.py
def eqvL (a b : List D) : Bool := PyData.eqvAll (pyL a) (pyL b)
theorem eqv_tup {a b : List D} : D.eqv (.tup a) (.tup b) = eqvL a b := by unfold D.eqv; rw [D.py, D.py, PyData.eqv]; rfl
theorem eqv_lst {a b : List D} : D.eqv (.lst a) (.lst b) = eqvL a b := by unfold D.eqv; rw [D.py, D.py, PyData.eqv]; rfl
theorem eqvL_nil : eqvL [] [] = true := by unfold eqvL; rw [pyL, PyData.eqvAll]
theorem eqvL_cons {a b : D} {as bs : List D} : eqvL (a :: as) (b :: bs) = (D.eqv a b && eqvL as bs) := by unfold eqvL; rw [pyL, pyL, PyData.eqvAll]; rfl
theorem eqvL_nc {b : D} {bs : List D} : eqvL [] (b :: bs) = false := by unfold eqvL; rw [pyL, pyL, PyData.eqvAll]
theorem eqvL_cn {b : D} {bs : List D} : eqvL (b :: bs) [] = false := by unfold eqvL; rw [pyL, pyL, PyData.eqvAll]
theorem eqv_int {i j : Int} : D.eqv (.int i) (.int j) = decide (i = j) := by
  unfold D.eqv; rw [D.py, D.py, PyData.eqv, Bool.beq_eq_decide_eq]
theorem eqvL_map {α : Type} [DecidableEq α] {f : α → D} (h : ∀ x y, D.eqv (f x) (f y) = decide (x = y)) : ∀ (xs ys : List α), eqvL (xs.map f) (ys.map f) = decide (xs = ys)
  | [], [] => by simp [eqvL_nil]
  | [], y :: ys => by simp [eqvL_nc]
  | x :: xs, [] => by simp [eqvL_cn]
  | x :: xs, y :: ys => by
    rw [List.map_cons, List.map_cons, eqvL_cons, h, eqvL_map h xs ys, Bool.eq_iff_iff]
    simp
theorem eqv_dI {a b : List Int} : D.eqv (dI a) (dI b) = decide (a = b) := by
  rw [eqv_tup]; exact eqvL_map (fun _ _ => eqv_int) a b
theorem eqv_dLI {a b : List Int} : D.eqv (dLI a) (dLI b) = decide (a = b) := by
  rw [eqv_lst]; exact eqvL_map (fun _ _ => eqv_int) a b
theorem eqv_dLL {a b : List (List Int)} : D.eqv (dLL a) (dLL b) = decide (a = b) := by
  rw [eqv_lst]; exact eqvL_map (fun _ _ => eqv_dI) a b
theorem eqv_lst_nil {a : List D} : D.eqv (.lst a) (.lst []) = a.isEmpty := by
  rw [eqv_lst]
  cases a with
  | nil => exact eqvL_nil
  | cons => exact eqvL_cn
theorem eqv_tup_nil {a : List D} : D.eqv (.tup a) (.tup []) = a.isEmpty := by
  rw [eqv_tup]
  cases a with
  | nil => exact eqvL_nil
  | cons => exact eqvL_cn
theorem rd_eqD {a b : D} {n m : Nat} (ha : D.ok n a = true) (hb : D.ok m b = true) (hn : n ≤ 64 := by decide) (hm : m ≤ 64 := by decide) : RD2 W (rEqD K) a b (.bl (D.eqv a b)) := fun c G H v1 v2 g j r1 r2 Q q =>
  ⟨_, _, r1.dp g ha, r2.dp g hb, shaped_of_ok ha hn, shaped_of_ok hb hm, q.here g j (.bl _)⟩
theorem rd_neD {a b : D} {n m : Nat} (ha : D.ok n a = true) (hb : D.ok m b = true) (hn : n ≤ 64 := by decide) (hm : m ≤ 64 := by decide) : RD2 W (rNeD K) a b (.bl (!D.eqv a b)) := fun c G H v1 v2 g j r1 r2 Q q =>
  ⟨_, _, r1.dp g ha, r2.dp g hb, shaped_of_ok ha hn, shaped_of_ok hb hm, q.here g j (.bl _)⟩
theorem rd_eqI {i j : Int} : RD2 W (rEqD K) (.int i) (.int j) (.bl (decide (i = j))) := by
  have h := rd_eqD (W := W) (K := K) (a := .int i) (b := .int j) (n := 0) (m := 0) rfl rfl
  rw [eqv_int] at h
  exact h
theorem rd_neI {i j : Int} : RD2 W (rNeD K) (.int i) (.int j) (.bl (!decide (i = j))) := by
  have h := rd_neD (W := W) (K := K) (a := .int i) (b := .int j) (n := 0) (m := 0) rfl rfl
  rw [eqv_int] at h
  exact h
/-- x in xs, any plain data -/
theorem rd_inD {x : D} {xs : List D} {n m : Nat} (ha : D.ok n x = true) (hb : D.ok m (.lst xs) = true) (hn : n ≤ 64 := by decide) (hm : m ≤ 64 := by decide) : RD2 W (rInD K) x (.lst xs) (.bl ((pyL xs).any fun z => PyData.eqv z x.py)) := fun c G H v1 v2 g j r1 r2 Q q => by
  have h2 := r2.dp (K := K) g hb
  have h3 := shaped_of_ok hb hm
  rw [D.py] at h2 h3
  exact ⟨_, _, r1.dp g ha, h2, shaped_of_ok ha hn, h3, q.here g j (.bl _)⟩
theorem any_pyL {x : PyData} : ∀ {xs : List D}, (pyL xs).any (fun z => PyData.eqv z x) = xs.any fun z => PyData.eqv z.py x
  | [] => rfl
  | d :: ds => by rw [pyL, List.any_cons, List.any_cons, any_pyL]

/-! ### ints -/
theorem rd_add {i j : Int} : RD2 W (rI0 fun i j => .int (i + j)) (.int i) (.int j) (.int (i + j)) := rd_I0 fun _ => .int _
theorem rd_sub {i j : Int} : RD2 W (rI0 fun i j => .int (i - j)) (.int i) (.int j) (.int (i - j)) := rd_I0 fun _ => .int _
theorem rd_lt {i j : Int} : RD2 W (rI0 fun i j => .bl (decide (i < j))) (.int i) (.int j) (.bl (decide (i < j))) := rd_I0 fun _ => .bl _
theorem rd_le {i j : Int} : RD2 W (rI0 fun i j => .bl (decide (i ≤ j))) (.int i) (.int j) (.bl (decide (i ≤ j))) := rd_I0 fun _ => .bl _
theorem rd_gt {i j : Int} : RD2 W (rI0 fun i j => .bl (decide (j < i))) (.int i) (.int j) (.bl (decide (j < i))) := rd_I0 fun _ => .bl _
theorem rd_ge {i j : Int} : RD2 W (rI0 fun i j => .bl (decide (j ≤ i))) (.int i) (.int j) (.bl (decide (j ≤ i))) := rd_I0 fun _ => .bl _
theorem rd_mod {i j : Int} (h : 0 < j) : RD2 W (rI (fun _ j => 0 < j) fun i j => .int (i % j)) (.int i) (.int j) (.int (i % j)) := rd_I h fun _ => .int _
theorem rd1_neg {i : Int} : RD1 W (rU fun i => .int (-i)) (.int i) (.int (-i)) := fun c G H v1 g j r1 Q q => by
  cases r1
  exact ⟨i, rfl, q.here g j (.int _)⟩
theorem rd_isN {d : D} (hd : ∀ v, d ≠ .raw v) : RD2 W (fun x y H Q => y = .non ∧ Q (.bl (decide (x = .non))) H) d .non (.bl (match d with | .non => true | _ => false)) := fun c G H v1 v2 g j r1 r2 Q q => by
  cases r2
  refine ⟨rfl, ?_⟩
  cases r1 with
  | non => exact q.here g j (.bl _)
  | raw => exact absurd rfl (hd _)
  | _ => exact q.here g j (.bl false)
theorem rd_notN {d : D} (hd : ∀ v, d ≠ .raw v) : RD2 W (fun x y H Q => y = .non ∧ Q (.bl (!decide (x = .non))) H) d .non (.bl (match d with | .non => false | _ => true)) := fun c G H v1 v2 g j r1 r2 Q q => by
  cases r2
  refine ⟨rfl, ?_⟩
  cases r1 with
  | non => exact q.here g j (.bl _)
  | raw => exact absurd rfl (hd _)
  | _ => exact q.here g j (.bl true)
theorem rd_isB {a b : Bool} : RD2 W rIsB (.bl a) (.bl b) (.bl (decide (a = b))) := fun c G H v1 v2 g j r1 r2 Q q => by
  cases r1; cases r2
  exact ⟨a, b, rfl, rfl, q.here g j (.bl _)⟩
theorem rd_notB {a b : Bool} : RD2 W rNotB (.bl a) (.bl b) (.bl (!decide (a = b))) := fun c G H v1 v2 g j r1 r2 Q q => by
  cases r1; cases r2
  exact ⟨a, b, rfl, rfl, q.here g j (.bl _)⟩

/-! ### lists and tuples -/
theorem rd_cat {a b : List D} (hz : a.length + b.length ≤ 100000) : RD2 W rCat (.lst a) (.lst b) (.lst (a ++ b)) := fun c G H v1 v2 g j r1 r2 Q q => by
  cases r1 with
  | lst h1 l1 =>
    cases r2 with
    | lst h2 l2 =>
      refine ⟨_, _, _, _, rfl, rfl, g.same _ _ h1, g.same _ _ h2, ?_, fun p hp => q.newL g j hp (l1.app l2)⟩
      rw [l1.len, l2.len]
      exact Nat.le_trans hz (by decide)
theorem rd_catA {a b : List D} (hz : a.length + b.length ≤ 100000) : RD2 W (rCatA K) (.tup a) (.tup b) (.tup (a ++ b)) := fun c G H v1 v2 g j r1 r2 Q q => by
  have r1' := r1
  have r2' := r2
  cases r1 with
  | @tup _ xs _ h1 l1 =>
    cases r2 with
    | @tup _ ys _ h2 l2 =>
      refine ⟨_, _, _, _, rfl, rfl, sqT_of g h1, sqT_of g h2, ?_, fun e => ?_, fun _ e => ?_, fun _ _ p hp => q.newT g j hp (l1.app l2)⟩
      · rw [l1.len, l2.len]
        exact Nat.le_trans hz (by decide)
      · have e2 : a = [] := List.length_eq_zero_iff.mp (by rw [← l1.len, e]; rfl)
        subst e2
        exact q.here g j r2'
      · have e2 : b = [] := List.length_eq_zero_iff.mp (by rw [← l2.len, e]; rfl)
        subst e2
        rw [List.append_nil] at q
        exact q.here g j r1'
theorem flat_ints (ns : List Int) : (ns.map V.int).all flatV = true := by
  rw [List.all_eq_true]
  intro x hx
  obtain ⟨i, _, rfl⟩ := List.mem_map.mp hx
  rfl
theorem inV_ints {i : Int} : ∀ ns : List Int, inV (.int i) (ns.map V.int) = decide (i ∈ ns)
  | [] => by simp [inV]
  | n :: ns => by
    have e := inV_ints (i := i) ns
    unfold inV at e ⊢
    rw [List.map_cons, List.any_cons, e]
    show ((n == i) || decide (i ∈ ns)) = decide (i ∈ n :: ns)
    rw [Bool.eq_iff_iff]
    simp only [Bool.or_eq_true, beq_iff_eq, decide_eq_true_eq, List.mem_cons]
    exact ⟨fun h => h.elim (fun e => .inl e.symm) .inr, fun h => h.elim (fun e => .inl e.symm) .inr⟩
theorem rd_inT {neg : Bool} {i : Int} {ns : List Int} : RD2 W (rIn K neg) (.int i) (dI ns) (.bl (if neg then !decide (i ∈ ns) else decide (i ∈ ns))) := fun c G H v1 v2 g j r1 r2 Q q => by
  cases r1
  cases r2 with
  | tup h2 l2 =>
    obtain rfl := l2.ints
    refine ⟨_, _, rfl, .inr (sqT_of g h2), rfl, flat_ints ns, ?_⟩
    rw [inV_ints]
    exact q.here g j (.bl _)
theorem rd_inL {neg : Bool} {i : Int} {ns : List Int} : RD2 W (rIn K neg) (.int i) (dLI ns) (.bl (if neg then !decide (i ∈ ns) else decide (i ∈ ns))) := fun c G H v1 v2 g j r1 r2 Q q => by
  cases r1
  cases r2 with
  | lst h2 l2 =>
    obtain rfl := l2.ints
    refine ⟨_, _, rfl, .inl (sqL_of g h2), rfl, flat_ints ns, ?_⟩
    rw [inV_ints]
    exact q.here g j (.bl _)
theorem rd_ixL {ds : List D} {i : Nat} {d : D} (h : ds[i]? = some d) : RD2 W (rIx K) (.lst ds) (.int (i : Nat)) d := fun c G H v1 v2 g j r1 r2 Q q => by
  cases r2
  cases r1 with
  | lst h1 l1 =>
    obtain ⟨v, e, r⟩ := l1.get h
    exact .inl ⟨_, _, _, v, rfl, rfl, sqL_of g h1, atI_nat e, q.here g j r⟩
theorem rd_ixT {ds : List D} {i : Nat} {d : D} (h : ds[i]? = some d) : RD2 W (rIx K) (.tup ds) (.int (i : Nat)) d := fun c G H v1 v2 g j r1 r2 Q q => by
  cases r2
  cases r1 with
  | tup h1 l1 =>
    obtain ⟨v, e, r⟩ := l1.get h
    exact .inr (.inl ⟨_, _, _, v, rfl, rfl, sqT_of g h1, atI_nat e, q.here g j r⟩)
theorem rd_ixLast {ds : List D} {d : D} : RD2 W (rIx K) (.tup (ds ++ [d])) (.int (-1)) d := fun c G H v1 v2 g j r1 r2 Q q => by
  cases r2
  cases r1 with
  | tup h1 l1 =>
    obtain ⟨v, e, r⟩ := l1.get (i := ds.length) (d := d) (by simp)
    have hl := l1.len
    rw [List.length_append, List.length_singleton] at hl
    refine .inr (.inl ⟨_, _, _, v, rfl, rfl, sqT_of g h1, ?_, q.here g j r⟩)
    unfold atI ixN
    rw [hl, if_neg (by decide), if_pos (by omega), Option.bind_some, show ((-1 : Int) + ((ds.length + 1 : Nat) : Int)).toNat = ds.length by omega]
    exact e
theorem rdl_len {ds : List D} : RDL W (fun xs H Q => ∃ p ys, xs = [.ref p] ∧ (SqL K H p ys ∨ SqT K H p ys) ∧ Q (.int ys.length) H) [.lst ds] (.int ds.length) := fun c G H vs g j r Q q => by
  cases r with
  | cons r1 r2 =>
    cases r2
    cases r1 with
    | lst h1 l1 => exact ⟨_, _, rfl, .inl (sqL_of g h1), by rw [l1.len]; exact q.here g j (.int _)⟩
theorem rdl_lenT {ds : List D} : RDL W (fun xs H Q => ∃ p ys, xs = [.ref p] ∧ (SqL K H p ys ∨ SqT K H p ys) ∧ Q (.int ys.length) H) [.tup ds] (.int ds.length) := fun c G H vs g j r Q q => by
  cases r with
  | cons r1 r2 =>
    cases r2
    cases r1 with
    | tup h1 l1 => exact ⟨_, _, rfl, .inr (sqT_of g h1), by rw [l1.len]; exact q.here g j (.int _)⟩
theorem rdl_any {bs : List Bool} : RDL W (rAny K) [.lst (bs.map .bl)] (.bl (bs.any id)) := fun c G H vs g j r Q q => by
  cases r with
  | cons r1 r2 =>
    cases r2
    cases r1 with
    | lst h1 l1 =>
      obtain rfl := l1.bls
      exact ⟨_, _, rfl, sqL_of g h1, q.here g j (.bl _)⟩
theorem rdl_all {bs : List Bool} : RDL W (rAll K) [.lst (bs.map .bl)] (.bl (bs.all id)) := fun c G H vs g j r Q q => by
  cases r with
  | cons r1 r2 =>
    cases r2
    cases r1 with
    | lst h1 l1 =>
      obtain rfl := l1.bls
      exact ⟨_, _, rfl, sqL_of g h1, q.here g j (.bl _)⟩
theorem rdl_max2 {a b : Int} : RDL W (fun xs H Q => ∃ i j, xs = [.int i, .int j] ∧ Q (.int (if j > i then j else i)) H) [.int a, .int b] (.int (max a b)) := fun c G H vs g j r Q q => by
  cases r with
  | cons r1 r2 =>
    cases r2 with
    | cons r2 r3 =>
      cases r1; cases r2; cases r3
      refine ⟨a, b, rfl, ?_⟩
      have e : (if b > a then b else a) = max a b := by split <;> omega
      rw [e]
      exact q.here g j (.int _)
theorem rdl_min2 {a b : Int} : RDL W (fun xs H Q => ∃ i j, xs = [.int i, .int j] ∧ Q (.int (if j < i then j else i)) H) [.int a, .int b] (.int (min a b)) := fun c G H vs g j r Q q => by
  cases r with
  | cons r1 r2 =>
    cases r2 with
    | cons r2 r3 =>
      cases r1; cases r2; cases r3
      refine ⟨a, b, rfl, ?_⟩
      have e : (if b < a then b else a) = min a b := by split <;> omega
      rw [e]
      exact q.here g j (.int _)
theorem rdl_int {a : Int} : RDL W (fun xs H Q => (∃ i, xs = [.int i] ∧ Q (.int i) H) ∨ ∃ k, xs = [.bl k] ∧ Q (.int (if k then 1 else 0)) H) [.int a] (.int a) := fun c G H vs g j r Q q => by
  cases r with
  | cons r1 r2 =>
    cases r1; cases r2
    exact .inl ⟨a, rfl, q.here g j (.int _)⟩
theorem rdl_tupL {ds : List D} : RDL W (fun xs H Q => ∃ p ys, xs = [.ref p] ∧ ((SqL K H p ys ∧ ∀ l, H l = none → Q (.ref l) (upd H l (.tup ys))) ∨ (SqT K H p ys ∧ Q (.ref p) H))) [.lst ds] (.tup ds) := fun c G H vs g j r Q q => by
  cases r with
  | cons r1 r2 =>
    cases r2
    cases r1 with
    | lst h1 l1 => exact ⟨_, _, rfl, .inl ⟨sqL_of g h1, fun l hl => q.newT g j hl l1⟩⟩
theorem rdl_listL {ds : List D} : RDL W (fun xs H Q => ∃ p ys, xs = [.ref p] ∧ (SqL K H p ys ∨ SqT K H p ys) ∧ ∀ l, H l = none → Q (.ref l) (upd H l (.lst ys))) [.lst ds] (.lst ds) := fun c G H vs g j r Q q => by
  cases r with
  | cons r1 r2 =>
    cases r2
    cases r1 with
    | lst h1 l1 => exact ⟨_, _, rfl, .inl (sqL_of g h1), fun l hl => q.newL g j hl l1⟩
theorem rdl_listT {ds : List D} : RDL W (fun xs H Q => ∃ p ys, xs = [.ref p] ∧ (SqL K H p ys ∨ SqT K H p ys) ∧ ∀ l, H l = none → Q (.ref l) (upd H l (.lst ys))) [.tup ds] (.lst ds) := fun c G H vs g j r Q q => by
  cases r with
  | cons r1 r2 =>
    cases r2
    cases r1 with
    | tup h1 l1 => exact ⟨_, _, rfl, .inr (sqT_of g h1), fun l hl => q.newL g j hl l1⟩
/-- range(a, b) as a list of data -/
def rgD (a b : Int) : List Int := (List.range (b - a).toNat).map fun i => a + (i : Nat)
theorem rgV_eq {a b : Int} : rgV a b = (rgD a b).map V.int := by unfold rgV rgD; rw [List.map_map]; rfl
theorem ed_listRg1 {ta : TE} {env : Env'} {b : Int} (h : ED W ta env (.int b)) (hb : 0 ≤ b ∧ b ≤ 10000) : ED W (tLstRg (tRg1 ta)) env (dLI (rgD 0 b)) := fun c G0 H0 σ G H A Q q =>
  h c G0 H0 σ G H A _ fun v G1 H1 s1 g1 j1 r1 => by
    cases r1
    refine ⟨b, rfl, .of_le (Int.le_refl 0) (by omega) (by omega) hb.1, fun p hp => ?_⟩
    rw [rgV_eq]
    exact q (.ref p) _ _ (s1.trans (stp_new g1 hp)) (gok_new g1 j1 hp (noTb_lst _)) (J_new j1 hp) (.lst upd_same (RpL.of_ints _))
theorem ed_tupRg1 {ta : TE} {env : Env'} {b : Int} (h : ED W ta env (.int b)) (hb : 0 ≤ b ∧ b ≤ 10000) : ED W (tTupRg (tRg1 ta)) env (dI (rgD 0 b)) := fun c G0 H0 σ G H A Q q =>
  h c G0 H0 σ G H A _ fun v G1 H1 s1 g1 j1 r1 => by
    cases r1
    refine ⟨b, rfl, .of_le (Int.le_refl 0) (by omega) (by omega) hb.1, fun p hp => ?_⟩
    rw [rgV_eq]
    exact q (.ref p) _ _ (s1.trans (stp_new g1 hp)) (gok_new g1 j1 hp (noTb_tup _)) (J_new j1 hp) (.tup upd_same (RpL.of_ints _))
theorem ed_listRg2 {ta tb : TE} {env : Env'} {a b : Int} (h : ED W ta env (.int a)) (h' : ED W tb env (.int b)) (hb : 0 ≤ a ∧ a ≤ 10000 ∧ 0 ≤ b ∧ b ≤ 10000) : ED W (tLstRg (tRg2 ta tb)) env (dLI (rgD a b)) := fun c G0 H0 σ G H A Q q =>
  h c G0 H0 σ G H A _ fun v G1 H1 s1 g1 j1 r1 => h' c G0 H0 σ G1 H1 (A.step s1 g1 j1) _ fun v2 G2 H2 s2 g2 j2 r2 => by
    cases r1; cases r2
    refine ⟨a, b, rfl, rfl, .of_le (by omega) (by omega) (by omega) (by omega), fun p hp => ?_⟩
    rw [rgV_eq]
    exact q (.ref p) _ _ ((s1.trans s2).trans (stp_new g2 hp)) (gok_new g2 j2 hp (noTb_lst _)) (J_new j2 hp) (.lst upd_same (RpL.of_ints _))
theorem ed_tupRg2 {ta tb : TE} {env : Env'} {a b : Int} (h : ED W ta env (.int a)) (h' : ED W tb env (.int b)) (hb : 0 ≤ a ∧ a ≤ 10000 ∧ 0 ≤ b ∧ b ≤ 10000) : ED W (tTupRg (tRg2 ta tb)) env (dI (rgD a b)) := fun c G0 H0 σ G H A Q q =>
  h c G0 H0 σ G H A _ fun v G1 H1 s1 g1 j1 r1 => h' c G0 H0 σ G1 H1 (A.step s1 g1 j1) _ fun v2 G2 H2 s2 g2 j2 r2 => by
    cases r1; cases r2
    refine ⟨a, b, rfl, rfl, .of_le (by omega) (by omega) (by omega) (by omega), fun p hp => ?_⟩
    rw [rgV_eq]
    exact q (.ref p) _ _ ((s1.trans s2).trans (stp_new g2 hp)) (gok_new g2 j2 hp (noTb_tup _)) (J_new j2 hp) (.tup upd_same (RpL.of_ints _))
/-- isinstance(x, C) -/
inductive TyD : D → String → Prop
  | non : TyD .non "NoneType"
  | bl (b : Bool) : TyD (.bl b) "bool"
  | int (i : Int) : TyD (.int i) "int"
  | str (s : Str) : TyD (.str s) "str"
  | tup (ds : List D) : TyD (.tup ds) "tuple"
  | lst (ds : List D) : TyD (.lst ds) "list"
  | dic (kvs : List (Key × D)) : TyD (.dic kvs) "dict"
theorem TyD.tyx {d : D} {t : String} (h : TyD d t) (g : GOk W G H) {v : V} (r : Rp G v d) : TyX K H v (.type t) := by
  cases h with
  | non => cases r; exact .base .non
  | bl b => cases r; exact .base (.bl b)
  | int b => cases r; exact .base (.int b)
  | str b => cases r; exact .base (.str b)
  | tup ds => cases r with | tup h1 l1 => exact .base (.tup (g.same _ _ h1))
  | lst ds => cases r with | lst h1 l1 => exact .base (.lst (g.same _ _ h1))
  | dic ds => cases r with | dic h1 l1 => exact .fDict (g.same _ _ h1)
theorem rdl_isi {d : D} {t C : String} {b : Bool} (h : TyD d t) (hk : PySem.W.kitOne K (.type t) (.type C) = some b) : RDL W (rIsi K) [d, .raw (.ty C)] (.bl b) := fun c G H vs g j r Q q => by
  cases r with
  | cons r1 r2 =>
    cases r2 with
    | cons r2 r3 =>
      cases r3; cases r2
      exact ⟨_, _, _, _, b, rfl, .ty C, h.tyx g r1, hk, q.here g j (.bl _)⟩
theorem rdl_isiT {d : D} {t : String} {Cs : List String} {b : Bool} (h : TyD d t) (hk : PySem.W.kitAny K (.type t) (Cs.map Value.type) = some b) : RDL W (rIsiT K) [d, .tup (Cs.map fun C => .raw (.ty C))] (.bl b) := fun c G H vs g j r Q q => by
  cases r with
  | cons r1 r2 =>
    cases r2 with
    | cons r2 r3 =>
      cases r3
      cases r2 with
      | tup h2 l2 =>
        have e : ∀ (Cs : List String) xs, RpL G xs (Cs.map fun C => D.raw (.ty C)) → Paired ClsV xs (Cs.map Value.type) := by
          intro Cs
          induction Cs with
          | nil => intro xs h; cases h; exact .nil
          | cons C r ih =>
            intro xs h
            cases h with
            | cons h1 h2 =>
              cases h1
              exact .cons (.ty C) (ih _ h2)
        exact ⟨_, _, _, _, _, b, rfl, g.same _ _ h2, e Cs _ l2, h.tyx g r1, hk, q.here g j (.bl _)⟩
/-- slices -/
def EO (W : Wld T) (to : TO) (env : Env') (o : Option Int) : Prop := ∀ c G0 H0 σ G H, At W G0 H0 c G H σ env → ∀ Q : Option Int → Hp → Prop, (∀ G2 H2, Stp W G H G2 H2 → GOk W G2 H2 → W.J c H2 → Q o H2) → to σ H Q
theorem eo_none {env : Env'} : EO W tNoPart env none := fun c G0 H0 σ G H A Q q => q G H Stp.refl A.gok A.j
theorem eo_some {te : TE} {env : Env'} {i : Int} (h : ED W te env (.int i)) : EO W (tPart te) env (some i) := fun c G0 H0 σ G H A Q q => h c G0 H0 σ G H A _ fun v G1 H1 s1 g1 j1 r1 => by
  cases r1
  exact ⟨i, rfl, q G1 H1 s1 g1 j1⟩
def cutD (xs : List D) (lo hi : Option Int) : List D := (xs.drop (HT.sIx xs.length 0 lo)).take (HT.sIx xs.length xs.length hi - HT.sIx xs.length 0 lo)
theorem ed_slL {te : TE} {tl th : TO} {env : Env'} {ds : List D} {lo hi : Option Int} (h : ED W te env (.lst ds)) (hl : EO W tl env lo) (hh : EO W th env hi) : ED W (tSl (rSlL K) te tl th) env (.lst (cutD ds lo hi)) := fun c G0 H0 σ G H A Q q =>
  h c G0 H0 σ G H A _ fun v G1 H1 s1 g1 j1 r1 => hl c G0 H0 σ G1 H1 (A.step s1 g1 j1) _ fun G2 H2 s2 g2 j2 => hh c G0 H0 σ G2 H2 ((A.step s1 g1 j1).step s2 g2 j2) _ fun G3 H3 s3 g3 j3 => by
    cases r1 with
    | @lst a xs _ h1 l1 =>
      have hG := s3.gg _ _ (s2.gg _ _ h1)
      have l3 := (l1.mono s2.gg).mono s3.gg
      refine ⟨_, xs, rfl, sqL_of g3 hG, fun p hp => ?_⟩
      have e : RpL G3 (cutV xs lo hi) (cutD ds lo hi) := by
        unfold cutV cutD
        rw [l3.len]
        exact RpL.take _ (RpL.drop _ l3)
      exact q (.ref p) _ _ (((s1.trans s2).trans s3).trans (stp_new g3 hp)) (gok_new g3 j3 hp (noTb_lst _)) (J_new j3 hp) (.lst upd_same (e.mono (same_new (g3.none hp) _)))
theorem ed_slT {te : TE} {tl th : TO} {env : Env'} {ds : List D} {lo hi : Option Int} (h : ED W te env (.tup ds)) (hl : EO W tl env lo) (hh : EO W th env hi) : ED W (tSl (rSlA K) te tl th) env (.tup (cutD ds lo hi)) := fun c G0 H0 σ G H A Q q =>
  h c G0 H0 σ G H A _ fun v G1 H1 s1 g1 j1 r1 => hl c G0 H0 σ G1 H1 (A.step s1 g1 j1) _ fun G2 H2 s2 g2 j2 => hh c G0 H0 σ G2 H2 ((A.step s1 g1 j1).step s2 g2 j2) _ fun G3 H3 s3 g3 j3 => by
    have r3 := (r1.mono s2.gg).mono s3.gg
    cases r1 with
    | @tup a xs _ h1 l1 =>
      have hG := s3.gg _ _ (s2.gg _ _ h1)
      have l3 := (l1.mono s2.gg).mono s3.gg
      have e : RpL G3 (cutV xs lo hi) (cutD ds lo hi) := by
        unfold cutV cutD
        rw [l3.len]
        exact RpL.take _ (RpL.drop _ l3)
      refine ⟨_, xs, rfl, sqT_of g3 hG, fun w => ?_, fun _ p hp => ?_⟩
      · have ew : cutD ds lo hi = ds := by
          unfold cutD
          rw [l3.len] at w
          rw [w.1, w.2, List.drop_zero, Nat.sub_zero, List.take_length]
        rw [ew] at q
        exact q _ _ _ ((s1.trans s2).trans s3) g3 j3 r3
      · exact q (.ref p) _ _ (((s1.trans s2).trans s3).trans (stp_new g3 hp)) (gok_new g3 j3 hp (noTb_tup _)) (J_new j3 hp) (.tup upd_same (e.mono (same_new (g3.none hp) _)))
/-- a < b < c -/
theorem et_chain {r r' : R2} {ta tb tc : TE} {env : Env'} {d1 d2 d3 : D} {a b : Bool} (h1 : ED W ta env d1) (h2 : ED W tb env d2) (h3 : a = true → ED W tc env d3) (hr : RD2 W r d1 d2 (.bl a)) (hr' : a = true → RD2 W r' d2 d3 (.bl b)) : ED W (tChain r r' ta tb tc) env (.bl (a && b)) := fun c G0 H0 σ G H A Q q =>
  h1 c G0 H0 σ G H A _ fun v1 G1 H1 s1 g1 j1 r1 => h2 c G0 H0 σ G1 H1 (A.step s1 g1 j1) _ fun v2 G2 H2 s2 g2 j2 r2 =>
    hr c G2 H2 v1 v2 g2 j2 (r1.mono s2.gg) r2 _ fun v G3 H3 s3 g3 j3 r3 => by
      cases r3
      refine ⟨a, rfl, ?_⟩
      cases a with
      | false => exact q _ G3 H3 ((s1.trans s2).trans s3) g3 j3 (.bl _)
      | true =>
        refine h3 rfl c G0 H0 σ G3 H3 (((A.step s1 g1 j1).step s2 g2 j2).step s3 g3 j3) _ fun v3 G4 H4 s4 g4 j4 r4 => ?_
        exact hr' rfl c G4 H4 v2 v3 g4 j4 ((r2.mono s3.gg).mono s4.gg) r4 Q fun v G5 H5 s5 g5 j5 r5 => q v G5 H5 ((((s1.trans s2).trans s3).trans s4).trans s5) g5 j5 r5

/-! ### defs -/
/-- a def that makes data of data and leaves all as it was -/
def SpD (T : List (Addr × Str)) (f : List D → D → Prop) : Sp := fun vs H Q _ => ∃ G ds d, GOk (W0 T) G H ∧ LamX.Tabs T H ∧ RpL G vs ds ∧ f ds d ∧
  ∀ v G2 H2, Stp (W0 T) G H G2 H2 → GOk (W0 T) G2 H2 → LamX.Tabs T H2 → Rp G2 v d → Q v H2
def CAP : Nat := 2 ^ 40
/-- a def that may draw, at most k times -/
def SpS (W : Wld T) (k : Nat) (f : List D → (D → Prop) → Prop) : Sp := fun vs H Q _ => ∃ G c ds P, GOk W G H ∧ W.J c H ∧ c + k ≤ CAP ∧ RpL G vs ds ∧ f ds P ∧
  ∀ v d G2 H2, Stp W G H G2 H2 → GOk W G2 H2 → W.J (c + k) H2 → Rp G2 v d → P d → Q v H2
theorem ed_call {f : List D → D → Prop} {E : XK} {ta : TA} {env : Env'} {ds : List D} {d : D} (h : EA W ta env ds) (hf : f ds d) : ED W (tCall (SpD T f) [] E ta) env d := fun c G0 H0 σ G H A Q q =>
  h c G0 H0 σ G H A _ fun vs G1 H1 s1 g1 j1 r1 => by
    rw [List.append_nil]
    exact ⟨G1, ds, d, g1.drop, W.tabs j1, r1, hf, fun v G2 H2 s g t r => q v G2 H2 (s1.trans s.lift) (g1.lift j1 s g) (J_lift j1 s t) r⟩
theorem en_callD {f : List D → D → Prop} {E : XK} {ta : TA} {env : Env'} {Pa : List D → Prop} {P : D → Prop} (h : EAN W ta env c k Pa) (hf : ∀ ds, Pa ds → ∃ d, f ds d ∧ P d) : EN W (tCall (SpD T f) [] E ta) env c k P := fun G0 H0 σ G H A Q q =>
  h G0 H0 σ G H A _ fun vs ds G1 H1 s1 g1 j1 r1 p => by
    obtain ⟨d, hd, pd⟩ := hf ds p
    rw [List.append_nil]
    exact ⟨G1, ds, d, g1.drop, W.tabs j1, r1, hd, fun v G2 H2 s g t r => q v d G2 H2 (s1.trans s.lift) (g1.lift j1 s g) (J_lift j1 s t) r pd⟩
theorem en_call {f : List D → (D → Prop) → Prop} {E : XK} {ta : TA} {env : Env'} {n : Nat} {Pa : List D → Prop} {P : D → Prop} (h : EAN W ta env c n Pa) (hf : ∀ ds, Pa ds → f ds P) (hc : c + n + k ≤ CAP) : EN W (tCall (SpS W k f) [] E ta) env c (n + k) P := fun G0 H0 σ G H A Q q =>
  h G0 H0 σ G H A _ fun vs ds G1 H1 s1 g1 j1 r1 p => by
    rw [List.append_nil]
    exact ⟨G1, c + n, ds, P, g1, j1, hc, r1, hf ds p, fun v d G2 H2 s g t r pd => q v d G2 H2 (s1.trans s) g (by rw [← Nat.add_assoc]; exact t) r pd⟩
def env0 (ds : List D) (n : Nat) : Env' := ds.map .dat ++ List.replicate n .emp
theorem env0_get {ds : List D} {n i : Nat} {d : D} (h : (env0 ds n)[i]? = some (.dat d)) : ds[i]? = some d := by
  unfold env0 at h
  by_cases hi : i < ds.length
  · rw [List.getElem?_append_left (by simpa using hi), List.getElem?_map] at h
    cases q : ds[i]? with
    | none => rw [q] at h; cases h
    | some e => rw [q] at h; cases h; rfl
  · rw [List.getElem?_append_right (by simpa using hi), List.getElem?_replicate] at h
    split at h <;> cases h
theorem env0_mu {ds : List D} {n i : Nat} {s : Slot} (h : (env0 ds n)[i]? = some s) : s.isM = false := by
  unfold env0 at h
  by_cases hi : i < ds.length
  · rw [List.getElem?_append_left (by simpa using hi), List.getElem?_map] at h
    cases q : ds[i]? with
    | none => rw [q] at h; cases h
    | some e => rw [q] at h; cases h; rfl
  · rw [List.getElem?_append_right (by simpa using hi), List.getElem?_replicate] at h
    split at h <;> cases h
    rfl
theorem at_start {N : List Str} {vs : List V} {ds : List D} (g : GOk W G H) (j : W.J c H) (r : RpL G vs ds) (hn : ds.length ≤ N.length) : At W (G, G) H c G H (L2.start N vs) (env0 ds (N.length - ds.length)) := by
  have hl := r.len
  refine ⟨Stp.refl, fun _ _ h => h, g, j, ?_, fun i d h => ?_, fun i s h hs => (by rw [env0_mu h] at hs; cases hs), fun i _ s _ _ _ h _ hs => (by rw [env0_mu h] at hs; cases hs)⟩
  · unfold L2.start env0
    rw [List.length_append, List.length_append, List.length_map, List.length_map, List.length_replicate, List.length_replicate, hl]
  · have hd := env0_get h
    obtain ⟨v, e, rv⟩ := r.get hd
    have hi : i < vs.length := (List.getElem?_eq_some_iff.mp e).1
    refine ⟨v, ?_, rv⟩
    unfold L2.start
    rw [List.getElem?_append_left (by simpa using hi), List.getElem?_map, e]
    rfl
/-- a body that keeps its promise -/
theorem body_D {f : List D → D → Prop} {t : TS} {N : List Str} {vs : List V} {Q : VK} {E : XK} (h : SpD T f vs H Q E) (hn : vs.length ≤ N.length) (hb : ∀ ds d, f ds d → Tr (W0 T) t (env0 ds (N.length - ds.length)) 0 ⟨fun _ _ => d = .non, fun r _ => r = d, fun _ _ => False, fun _ _ => False, fun _ _ _ => False, fun _ _ _ => False⟩) :
    t { nx := fun _ H' => Q .non H', rt := Q } (L2.start N vs) H := by
  obtain ⟨G, ds, d, g, tb, r, hf, q⟩ := h
  refine hb ds d hf (G, G) H _ G H (at_start (W := W0 T) (c := 0) g tb r (by rw [← r.len]; exact hn)) _ ⟨fun σ2 e2 c2 G2 H2 A2 e => ?_, fun v d2 c2 G2 H2 s g j r e => ?_, fun _ _ _ _ _ _ z => z.elim, fun _ _ _ _ _ _ z => z.elim, fun _ _ _ _ _ _ _ _ _ _ z => z.elim⟩
  · exact q .non G2 H2 A2.st A2.gok A2.j (by rw [e]; exact .non)
  · subst e
    exact q v G2 H2 s g j r
theorem body_S {f : List D → (D → Prop) → Prop} {t : TS} {N : List Str} {vs : List V} {Q : VK} {E : XK} (h : SpS W k f vs H Q E) (hn : vs.length ≤ N.length) (hb : ∀ ds P c, f ds P → c + k ≤ CAP → Tr W t (env0 ds (N.length - ds.length)) c ⟨fun _ c2 => P .non ∧ c2 ≤ c + k, fun r c2 => P r ∧ c2 ≤ c + k, fun _ _ => False, fun _ _ => False, fun _ _ _ => False, fun _ _ _ => False⟩) :
    t { nx := fun _ H' => Q .non H', rt := Q } (L2.start N vs) H := by
  obtain ⟨G, c, ds, P, g, j, hc, r, hf, q⟩ := h
  refine hb ds P c hf hc (G, G) H _ G H (at_start g j r (by rw [← r.len]; exact hn)) _ ⟨fun σ2 e2 c2 G2 H2 A2 e => ?_, fun v d2 c2 G2 H2 s g j r e => ?_, fun _ _ _ _ _ _ z => z.elim, fun _ _ _ _ _ _ z => z.elim, fun _ _ _ _ _ _ _ _ _ _ z => z.elim⟩
  · exact q .non .non G2 H2 A2.st A2.gok (W.mono e.2 A2.j) .non e.1
  · exact q v d2 G2 H2 s g (W.mono e.2 j) r e.1
/-- while -/
theorem tr_while {tt : TT} {tb : TS} {env : Env'} {po : Po} (Iv : Nat → Env' → Nat → Prop) (m0 : Nat) (h0 : Iv m0 env c)
    (hs : ∀ m e1 c1, Iv m e1 c1 → ∃ b, ET W tt e1 b ∧ (b = true → Tr W tb e1 c1 { po with nx := fun e2 c2 => ∃ m', m' < m ∧ Iv m' e2 c2, ct := fun e2 c2 => ∃ m', m' < m ∧ Iv m' e2 c2, bk := po.nx }) ∧ (b = false → po.nx e1 c1)) : Tr W (tWhile tt tb) env c po := by
  intro G0 H0 σ G H A E F
  refine ⟨fun m σ' H' => ∃ G' e1 c1, At W G0 H0 c1 G' H' σ' e1 ∧ Iv m e1 c1, ⟨m0, G, env, c, A, h0⟩, ?_⟩
  rintro m σ' H' ⟨G', e1, c1, A', iv⟩
  obtain ⟨b, ht, h1, h2⟩ := hs m e1 c1 iv
  refine ht c1 G0 H0 σ' G' H' A' _ fun G2 H2 s2 g2 j2 => ?_
  cases b with
  | true =>
    refine (if_pos rfl).mpr ?_
    refine ⟨fun σ'' H'' => ∃ m', m' < m ∧ ∃ G' e1 c1, At W G0 H0 c1 G' H'' σ'' e1 ∧ Iv m' e1 c1, fun σ'' H'' ⟨m', h, r⟩ => ⟨m', h, r⟩, ?_⟩
    refine h1 rfl _ _ _ _ _ (A'.step s2 g2 j2) _ ⟨fun σ4 e4 c4 G4 H4 A4 ⟨m', hm, q⟩ => ⟨m', hm, G4, e4, c4, A4, q⟩, F.rt, fun σ4 e4 c4 G4 H4 A4 q => F.nx _ _ _ _ _ A4 q, fun σ4 e4 c4 G4 H4 A4 ⟨m', hm, q⟩ => ⟨m', hm, G4, e4, c4, A4, q⟩, F.xx⟩
  | false =>
    refine (if_neg Bool.false_ne_true).mpr ?_
    exact F.nx _ _ _ _ _ (A'.step s2 g2 j2) (h2 rfl)
end
end Fx

set_option Elab.async false
set_option linter.all false
set_option maxRecDepth 100000
set_option maxHeartbeats 4000000
/-! A lambda of one name as a key: min(l, key=lambda x: ..), sorted(l, key=lambda x: ..). -/
namespace Fx
open PySem PySem.Spec PyProof.Rows L2 LamX

/-- one parameter p, no other name of its own -/
structure LamS1 (sc scope : Scope) (p : Str) : Prop where
  kind : scope.kind = .function
  co : scope.isCoroutine = false
  gen : scope.isGenerator = false
  own : ∀ y ∈ scope.names, y.2 = .local → y.1 = p
  nocell : ∀ y ∈ scope.names, y.2 ≠ .cell
  par : scope.names.lookup p = some .local
  free : ∀ y ∈ scope.names, y.2 = .free → sc.names.lookup y.1 = some .cell ∨ sc.names.lookup y.1 = some .free
def lamS1B (sc scope : Scope) (p : Str) : Bool :=
  decide (scope.kind = .function) && !scope.isCoroutine && !scope.isGenerator && decide (scope.names.lookup p = some .local) && scope.names.all fun y => (!decide (y.2 = .local) || decide (y.1 = p)) && !decide (y.2 = .cell) && (!decide (y.2 = .free) || decide (sc.names.lookup y.1 = some .cell) || decide (sc.names.lookup y.1 = some .free))
theorem lamS1_by {sc scope : Scope} {p : Str} (h : lamS1B sc scope p = true) : LamS1 sc scope p := by
  unfold lamS1B at h
  simp only [Bool.and_eq_true, Bool.or_eq_true, Bool.not_eq_true', decide_eq_true_eq, decide_eq_false_iff_not, List.all_eq_true] at h
  obtain ⟨⟨⟨⟨h1, h2⟩, h3⟩, h5⟩, h4⟩ := h
  refine ⟨h1, h2, h3, fun y hy e => ?_, fun y hy => (h4 y hy).1.2, h5, fun y hy e => ?_⟩
  · exact (h4 y hy).1.1.resolve_left fun z => z e
  · rcases (h4 y hy).2 with (z | z) | z
    · exact absurd e z
    · exact .inl z
    · exact .inr z
theorem LamS1.has {X : Cx} {scope : Scope} {p : Str} (L : LamS1 X.env.scope scope p) (ok : X.Ok) : ∀ y ∈ scope.names, y.2 = .free → ∃ c, X.env.cells.lookup y.1 = some c := fun y hy e => by
  rcases L.free y hy e with k | k
  · exact ok.has _ (.inl k)
  · exact ok.has _ (.inr k)
/-- the context of the lambda's body, called at s by a built-in of X's frame -/
def lamCx1 (X : Cx) (A : Around) (s : Shared) (H : Hp) (scope : Scope) (f c' : Addr) : Cx where
  prog := X.prog
  w := X.w
  K := X.K
  mg := X.mg
  base := X.base
  A := A.deeper (lamEnv X scope s.heap.objs.size f c')
  N := X.N
  s_0 := s
  H_0 := H
  env := lamEnv X scope s.heap.objs.size f c'
  outer := X.stack
  stack := lamEnv X scope s.heap.objs.size f c' :: X.stack
  ex := []
  fn := fun _ => false
  calm := true
  pn := []
  xe := fun _ _ => False
section
variable {X : Cx} {pins : List (Addr × Obj)} {σ : L2.St} {H : Hp} {s : Shared}
theorem lam_start1 {A : Around} {scope : Scope} {p : Str} {j : Nat} {x : V} {v : Value} {f c' : Addr} {h₁ : Heap} {tk : Nat} (I : Inv X pins σ H s) (L : LamS1 X.env.scope scope p) (hN : X.N.Nodup) (hj : X.N[j]? = some p) (rv : RelV x v) (hA : A.frames = some X.stack) (hd : A.handled = none)
    (hns : h₁.Ns s.heap.objs.size fun y => ([(p, v)] : List (Str × Value)).reverse.lookup y) (kp : ∀ b o, s.heap.get? b = some o → h₁.get? b = some o) :
    Inv (lamCx1 X A s H scope f c') [] (σ.set j (some x)) H { s with heap := h₁, toks := tk } := by
  have hfree := L.has I.ok
  have cm : ∀ {y c}, (cloFrom X.env.cells scope.names []).lookup y = some c → X.env.cells.lookup y = some c := fun {y c} e => by
    rcases cloFrom_mem (PySem.mem_of_lookup e) with hm | ⟨h1, h2⟩
    · cases hm
    · obtain ⟨c1, hc⟩ := hfree _ h1 rfl
      have hc : X.env.cells.lookup y = some c1 := hc
      have e2 : c = c1 := by
        rw [h2, hc] <;> rfl
      rw [e2]
      exact hc
  have look : ∀ {y}, scope.names.lookup y = some .free → ∃ c, (cloFrom X.env.cells scope.names []).lookup y = some c := fun {y} hl => by
    have hy : (y, NameKind.free) ∈ scope.names := PySem.mem_of_lookup hl
    exact mem_lookup (cloFrom_has (cells := X.env.cells) (acc := []) hy)
  have cellK : ∀ {c : Addr} {v : Option Value}, s.heap.IsCell c v → h₁.IsCell c v := fun {c v} ⟨o, ho, hd⟩ => ⟨o, kp _ _ ho, hd⟩
  have noA : ∀ b : Addr, b ∉ (lamCx1 X A s H scope f c').ex := fun b z => absurd (show b ∈ ([] : List Addr) from z) (by simp)
  refine ⟨⟨I.ok.mod, L.kind, rfl, rfl, Nat.le_refl _, fun y z c e1 e2 => I.ok.inj y z c (cm e1) (cm e2), fun y hy => ?_, fun y c z _ => ?_, fun _ => hd, Around.frames_deeper hA, .inr ⟨rfl, rfl⟩, fun b z => absurd z (noA b), I.bs, Nat.le_trans I.ok.bsz I.sz, fun b _ _ => noA b,
      fun b z => absurd z (noA b), I.stack, I.stkFree⟩,
    rfl, I.bare, Un.kept kp, ⟨_, hns, fun i y w e1 e2 e3 => ?_⟩, fun y c e => ?_, I.hok.fresh (Nat.le_refl _), fun y c e => I.freeC y c (cm e), fun q hq => absurd (show q ∈ ([] : List (Addr × Obj)) ++ [] from hq) (by simp), I.hok.kept kp, by rw [List.length_set]; exact I.len⟩
  · have hy : scope.names.lookup y = some .cell ∨ scope.names.lookup y = some .free := hy
    rcases hy with hy | hy
    · exact absurd rfl (L.nocell _ (PySem.mem_of_lookup hy))
    · exact look hy
  · have z : false = true := z
    cases z
  · have e1 : X.N[i]? = some y := e1
    by_cases hij : i = j
    · subst hij
      rw [hj] at e1
      cases e1
      have hi : i < σ.length := by rw [I.len]; exact (List.getElem?_eq_some_iff.mp hj).1
      rw [List.getElem?_set_self hi] at e2
      cases e2
      exact ⟨v, rv, .inl ⟨L.par, by show ([(p, v)] : List (Str × Value)).lookup p = some v; simp⟩⟩
    · rw [List.getElem?_set_ne (Ne.symm hij)] at e2
      have ne : y ≠ p := fun e => hij (nodup_ix hN e1 (e ▸ hj))
      have e3 : Vis scope y := e3
      rcases e3 with k | k | k
      · exact absurd (L.own _ (PySem.mem_of_lookup k) rfl) ne
      · exact absurd rfl (L.nocell _ (PySem.mem_of_lookup k))
      · obtain ⟨m, hn, hl⟩ := I.loc
        have hvis : Vis X.env.scope y := (L.free _ (PySem.mem_of_lookup k) rfl).elim (fun k => .inr (.inl k)) (fun k => .inr (.inr k))
        obtain ⟨w', r, q⟩ := hl i y w e1 e2 hvis
        obtain ⟨c2, h2⟩ := look k
        refine ⟨w', r, .inr ⟨.inr k, c2, h2, ?_⟩⟩
        have c1 := cm h2
        rcases q with ⟨k', _⟩ | ⟨_, c3, e', z⟩
        · have k' : X.env.scope.names.lookup y = some .local := k'
          rcases L.free _ (PySem.mem_of_lookup k) rfl with k2 | k2 <;> rw [show X.env.scope.names.lookup y = _ from k2] at k' <;> cases k'
        · rw [c1] at e'
          cases e'
          exact cellK z
  · obtain ⟨w', z⟩ := I.cell y c (cm e)
    exact ⟨w', cellK z⟩
/-- the lambda at f, called with one value by a built-in of this frame -/
theorem lam_call1 {A : Around} {scope : Scope} {p : Str} {j k : Nat} {x : V} {v : Value} {f c' : Addr} {pm ctv : Value} {params : Arguments} {body : Expr} {tb : TE} {Q : VK} {E : Value → Shared → Prop} (I : Inv X pins σ H s) (L : LamS1 X.env.scope scope p) (hN : X.N.Nodup) (hj : X.N[j]? = some p) (rv : RelV x v) (hA : A.frames = some X.stack) (hr : Room (k + 1) A)
    (hf : s.heap.get? f = some (PySem.W.kla_obj "<lambda>" (X.env.qual ++ "<lambda>") params body scope (cloFrom X.env.cells scope.names []) pm c' ctv)) (hco : H c' = some (CodeO c' (X.env.qual ++ "<lambda>")))
    (hbind : bindArgs (PySem.W.kla_fn "<lambda>" (X.env.qual ++ "<lambda>") params body scope (cloFrom X.env.cells scope.names []) pm (.ref c') ctv) ⟨[v], []⟩ = pure [(p, v)])
    (hbody : ∀ (s : Shared) (H : Hp), Room k (A.deeper (lamEnv X scope s.heap.objs.size f c')) → PE (lamCx1 X A s H scope f c') body tb) (h : tb (σ.set j (some x)) H Q) : wpAny (model X.prog X.w) A (call (.ref f) [v]) (EP X pins σ Q) E s := by
  obtain ⟨⟨oc, vs, t, hoc, hdc, hvc⟩, _, _⟩ := I.hok c' _ hco
  have rc : codeAny (model X.prog X.w) A (.call (.ref f) ⟨[v], []⟩) (CR C8.CX0 X.stack X.prog X.w H s Q C8.E0) s := by
    refine PySem.W.kla_callFunE hr.depth hf rfl L.co L.gen rfl ⟨c', oc, vs, t, rfl, hoc, hdc, hvc⟩ ?_
    rw [hbind]
    refine wpAny_pure (wpAny_newFunctionEnv (fun y hy => L.nocell y hy) (fun y hy => ?_) (fun h₁ hns hsb => ⟨I.nolimit.fresh _ hsb, ?_⟩) L.kind)
    · rw [List.mem_singleton.mp hy]
      exact L.par
    show codeAny _ _ (.expr body (lamEnv X scope s.heap.objs.size f c')) _ _
    have kp : ∀ b o, s.heap.get? b = some o → h₁.get? b = some o := fun b o e => hsb.extBut b o (Nat.ne_of_lt (Heap.lt_size e)) (Heap.get?_push_of_some _ e)
    have J : Inv (lamCx1 X A s H scope f c') [] (σ.set j (some x)) H { s with heap := h₁, toks := s.toks + ([(p, v)] : List (Str × Value)).length } := lam_start1 I L hN hj rv hA hr.hd hns kp
    refine PySem.W.kla_codeExpr (wpAny_mono ((hbody s H (hr.deeper _)).run [] _ _ H Q J h) (fun v s' hq => ?_) fun e s' hq => False.elim hq)
    obtain ⟨w', H', J', rv, q⟩ := hq
    exact ⟨w', H', J'.os, J'.bare, J'.base, J'.hok, rv, q⟩
  refine wpAny_call (codeAny_mono rc fun r s' hq => ?_)
  cases r with
  | error e => exact False.elim hq
  | ok fl =>
    cases fl with
    | ret u => exact I.after hq
    | next => exact False.elim hq
    | brk => exact False.elim hq
    | cont => exact False.elim hq
end
theorem swo_int : SrtO.Swo (fun a b : Int => decide (a < b)) := ⟨fun x y h => by simp at h ⊢; omega, fun x y z h1 h2 => by simp at h1 h2 ⊢; omega⟩
theorem lex_asym : ∀ x y : List Int, HT.lexLt x y = true → HT.lexLt y x = false
  | [], [], h => by simp [HT.lexLt] at h
  | [], _ :: _, _ => by simp [HT.lexLt]
  | _ :: _, [], h => by simp [HT.lexLt] at h
  | a :: x, b :: y, h => by
    unfold HT.lexLt at h ⊢
    by_cases e : a = b
    · rw [if_pos e] at h
      rw [if_pos e.symm]
      exact lex_asym x y h
    · rw [if_neg e] at h
      rw [if_neg (Ne.symm e)]
      simp at h ⊢
      omega
theorem lex_neg : ∀ x y z : List Int, HT.lexLt y x = false → HT.lexLt z y = false → HT.lexLt z x = false
  | _, _, [], h1, h2 => by
    rename_i x y
    cases x with
    | nil => simp [HT.lexLt]
    | cons a x =>
      cases y with
      | nil => simp [HT.lexLt] at h1
      | cons b y => simp [HT.lexLt] at h2
  | [], _, _ :: _, _, _ => by simp [HT.lexLt]
  | a :: x, [], c :: z, h1, h2 => by simp [HT.lexLt] at h1
  | a :: x, b :: y, c :: z, h1, h2 => by
    unfold HT.lexLt at h1 h2 ⊢
    by_cases e1 : b = a
    · rw [if_pos e1] at h1
      subst e1
      by_cases e2 : c = b
      · rw [if_pos e2] at h2 ⊢
        exact lex_neg x y z h1 h2
      · rw [if_neg e2] at h2 ⊢
        exact h2
    · rw [if_neg e1] at h1
      by_cases e2 : c = b
      · rw [if_pos e2] at h2
        subst e2
        rw [if_neg e1]
        exact h1
      · rw [if_neg e2] at h2
        simp at h1 h2
        rw [if_neg (by omega)]
        simp
        omega
theorem swo_lexLt : SrtO.Swo HT.lexLt := ⟨lex_asym, lex_neg⟩
/-! ### the lambda as a new object -/
section
variable {X : Cx} {pins : List (Addr × Obj)} {σ : L2.St} {H : Hp} {s : Shared} {T : List (Addr × Str)}
abbrev lamObj (X : Cx) (params : Arguments) (body : Expr) (scope : Scope) (pm ctv : Value) (c' : Addr) : Obj := PySem.W.kla_obj "<lambda>" (X.env.qual ++ "<lambda>") params body scope (cloFrom X.env.cells scope.names []) pm c' ctv
/-- what is told of a lambda that has just been made -/
structure Made (X : Cx) (pins : List (Addr × Obj)) (σ : L2.St) (T : List (Addr × Str)) (H H1 : Hp) (s' : Shared) (params : Arguments) (body : Expr) (scope : Scope) (f c' : Addr) (pm ctv : Value) : Prop where
  inv : Inv X pins σ H1 s'
  ext : ExtN H H1
  tabs : Tabs T H1
  obj : s'.heap.get? f = some (lamObj X params body scope pm ctv c')
  fp : FpOk X pins H1 f
  code : H1 c' = some (CodeO c' (X.env.qual ++ "<lambda>"))
theorem lam_new {c P : Addr} {params : Arguments} {body : Expr} {scope : Scope} {pos : Pos} {E Q : Value → Shared → Prop} (I : Inv X pins σ H s) (TB : TabB X.base X.mg c P) (hcode : X.env.code = .ref c) (hm : (P, X.env.qual ++ "<lambda>") ∈ T) (hu : ∀ p ∈ T, p.1 = P → p.2 = X.env.qual ++ "<lambda>")
    (hT : Tabs T H) (hdef : defaultsOf params X.env = ([], [])) (hfree : ∀ y ∈ scope.names, y.2 = .free → ∃ c, X.env.cells.lookup y.1 = some c)
    (h : ∀ f c' pm ctv H1 s', Made X pins σ T H H1 s' params body scope f c' pm ctv → Q (.ref f) s') : wpAny (model X.prog X.w) X.A (eval (.Lambda params body scope pos) X.env) Q E s := by
  obtain ⟨ps, eP, trip, amo⟩ := hT _ hm
  have blt := TB.bm.keeps I.bk
  have oP := I.hok P _ eP
  have hcl := closure_ok hfree
  refine PySem.W.kla_eval hdef ?_
  match hc : codeAmong pos ps.toList with
  | some cv =>
    obtain ⟨c', rfl, eC⟩ := amo pos cv hc
    refine PySem.W.kla_makeFunctionHit (mg := X.mg) hcl I.ok.glob (I.mod.glob.keeps I.bk) hcode (TB.code.keeps I.bk) oP trip hc blt fun ctv h' tk keep big => ?_
    refine h _ c' _ ctv H _ ⟨I.kept fun b o e => Heap.get?_push_of_some _ (keep b o e), ExtN.refl H, hT, Heap.get?_push_size _ rfl, I.fpOk big (I.hok.fresh big), eC⟩
  | none =>
    refine PySem.W.kla_makeFunction (mg := X.mg) hcl I.ok.glob (I.mod.glob.keeps I.bk) hcode (TB.code.keeps I.bk) oP trip hc TB.gP blt fun c' ctv h' tk keep big lt rec tab => ?_
    obtain ⟨_, oc, vs, t, e2, e3, e4, e5⟩ := rec
    injection e2 with e2
    subst e2
    have big2 : s.heap.objs.size ≤ h'.objs.size := by omega
    have fresh := I.hok.fresh big
    have nPc : P ≠ c' := ne_of_none eP fresh
    have J := inv_table (t' := tk) (more := #[rawInt pos.line, rawInt pos.col, .ref c']) (h' := h'.push (lamObj X params body scope ((X.mg "__name__").getD .none) ctv c')) I eP
      (fun b o hb e => Heap.get?_push_of_some _ (keep b o hb e)) (Heap.get?_push_of_some _ tab) big ⟨oc, vs, t, Heap.get?_push_of_some _ e3, e4, e5⟩
    have ext : ExtN H (upd (upd H P (.tbl (ps ++ #[rawInt pos.line, rawInt pos.col, .ref c']))) c' (CodeO c' (X.env.qual ++ "<lambda>"))) := fun b o e nt => by
      have n1 : b ≠ c' := ne_of_none e fresh
      have n2 : b ≠ P := by
        rintro rfl
        rw [eP] at e
        cases e
        exact nt ps rfl
      rw [upd_ne n1, upd_ne n2, e]
    have nF : (upd (upd H P (.tbl (ps ++ #[rawInt pos.line, rawInt pos.col, .ref c']))) c' (CodeO c' (X.env.qual ++ "<lambda>"))) h'.objs.size = none := by
      have n1 : h'.objs.size ≠ c' := by omega
      have n2 : h'.objs.size ≠ P := fun z => by
        have lt := Heap.lt_size (show s.heap.get? P = some _ from oP)
        rw [← z] at lt
        exact Nat.lt_irrefl _ (Nat.lt_of_lt_of_le lt big2)
      rw [upd_ne n1, upd_ne n2]
      exact I.hok.fresh big2
    have grow : (ps ++ #[rawInt pos.line, rawInt pos.col, .ref c']).toList = ps.toList ++ [rawInt pos.line, rawInt pos.col, .ref c'] := by simp
    refine h _ c' _ ctv _ _ ⟨J, ext, fun p hp => ?_, Heap.get?_push_size _ rfl, I.fpOk big2 nF, upd_same⟩
    by_cases hb : p.1 = P
    · rw [hu p hp hb, hb]
      refine ⟨_, (upd_ne nPc).trans upd_same, grow ▸ PySem.TriplesOk_snoc _ _ _ _ trip, fun p' cv hcv => ?_⟩
      rw [grow] at hcv
      cases among_app _ trip hcv with
      | inl z =>
        obtain ⟨c0, q1, q2⟩ := amo p' cv z
        exact ⟨c0, q1, ext _ _ q2 codeO_ne⟩
      | inr z => exact ⟨c', z, upd_same⟩
    · obtain ⟨ps', a1, a2, a3⟩ := hT p hp
      refine ⟨ps', by rw [upd_ne (ne_of_none a1 fresh), upd_ne hb, a1], a2, fun pos cv hcv => ?_⟩
      obtain ⟨c0, q1, q2⟩ := a3 pos cv hcv
      exact ⟨c0, q1, ext _ _ q2 codeO_ne⟩
end
/-- keys and their order -/
structure KeyOrd (K : PySem.W.Frag) (κ : Type) where
  KV : Hp → V → κ → Prop
  lt : κ → κ → Bool
  swo : SrtO.Swo lt
  mono : ∀ {H H' : Hp} {v : V} {a : κ}, ExtN H H' → KV H v a → KV H' v a
/-- < of two keys -/
structure KeyCmp {K : PySem.W.Frag} {κ : Type} (KO : KeyOrd K κ) : Prop where
  cmp : ∀ (X : Cx) (pins : List (Addr × Obj)) (σ : L2.St) (H : Hp) (s : Shared) (A : Around) (v1 v2 : V) (u1 u2 : Value) (a b : κ) (Q : Value → Shared → Prop) (E : Value → Shared → Prop), X.K = K → Inv X pins σ H s → A.units < cLine → RelV v1 u1 → RelV v2 u2 → KO.KV H v1 a → KO.KV H v2 b →
    Q (.bool (KO.lt a b)) s → wpAny (model X.prog X.w) A (richCompare .Lt u1 u2) Q E s
/-- ints -/
def keyInt (K : PySem.W.Frag) : KeyOrd K Int where
  KV := fun _ v i => v = .int i
  lt := fun a b => decide (a < b)
  swo := swo_int
  mono := fun _ h => h
theorem keyCmp_int {K : PySem.W.Frag} : KeyCmp (keyInt K) where
  cmp := by
    intro X pins σ H s A v1 v2 u1 u2 a b Q E hK I hu r1 r2 k1 k2 q
    subst k1 k2
    obtain ⟨t1, rfl⟩ := r1
    obtain ⟨t2, rfl⟩ := r2
    exact lt_int (prog := X.prog) (w := X.w) (A := A) (E := E) q
/-- tuples of ints -/
def keyTup (K : PySem.W.Frag) : KeyOrd K (List Int) where
  KV := fun H v ns => ∃ t, v = .ref t ∧ H t = some (.tup (ns.map V.int))
  lt := HT.lexLt
  swo := swo_lexLt
  mono := fun e h => by
    obtain ⟨t, e1, e2⟩ := h
    exact ⟨t, e1, e _ _ e2 (fun ps z => by cases z)⟩
theorem keyCmp_tup {K : PySem.W.Frag} : KeyCmp (keyTup K) where
  cmp := by
    intro X pins σ H s A v1 v2 u1 u2 a b Q E hK I hu r1 r2 k1 k2 q
    obtain ⟨t1, rfl, h1⟩ := k1
    obtain ⟨t2, rfl, h2⟩ := k2
    cases r1
    cases r2
    obtain ⟨its, r1, p1, _⟩ := I.tuple (.of h1)
    obtain ⟨its2, r2, p2, _⟩ := I.tuple (.of h2)
    exact HT.lt_tupInts p1 p2 (intsAre_of r1) (intsAre_of r2) hu q
section
variable {X : Cx} {pins : List (Addr × Obj)} {σ : L2.St} {H1 : Hp} {T : List (Addr × Str)} {κ : Type}
def KeyTurn (KO : KeyOrd X.K κ) (A : Around) (σ : L2.St) (H1 : Hp) (T : List (Addr × Str)) (q : Addr) (lamO : Obj) (xs : List V) (kf : Nat → κ) : Prop :=
  ∀ (i : Nat) (x : V) (v : Value) (H' : Hp) (s' : Shared) (pins' : List (Addr × Obj)) (E : Value → Shared → Prop), xs[i]? = some x → RelV x v → Inv X pins' σ H' s' → ExtN H1 H' → Tabs T H' → s'.heap.get? q = some lamO →
    wpAny (model X.prog X.w) A (call (.ref q) [v]) (EP X pins' σ (fun k H'' => ExtN H' H'' ∧ Tabs T H'' ∧ KO.KV H'' k (kf i))) E s'
/-- the first least one -/
def IsMin (lt : κ → κ → Bool) (kf : Nat → κ) (n i : Nat) : Prop := ∀ j, j < n → lt (kf j) (kf i) = false ∧ (j < i → lt (kf i) (kf j) = true)
theorem sqL_ext {K : PySem.W.Frag} {H H' : Hp} {a : Addr} {xs : List V} (e : ExtN H H') (h : SqL K H a xs) : SqL K H' a xs := by
  rcases h with (h | ⟨o, h⟩) | h
  · exact .inl (.inl (e _ _ h fun _ z => by cases z))
  · exact .inl (.inr ⟨o, e _ _ h fun _ z => by cases z⟩)
  · exact .inr h
theorem fp_at {H H' : Hp} {b : Addr} (f : FpOk X pins H b) (h : H' b = none) : FpOk X pins H' b := ⟨h, f.2⟩
theorem min_loop (KO : KeyOrd X.K κ) (KC : KeyCmp KO) {kf : Nat → κ} {lamO : Obj} {xs : List V} {a q I S : Addr} {R : Result → Shared → Prop} (hh : X.A.handled = none) (hun : X.A.in1.units < cLine) (turn : KeyTurn KO X.A.in1 σ H1 T q lamO xs kf) (hx : SqL X.K H1 a xs) (hl : ∀ v, lamO.data ≠ .cell v) (nqI : q ≠ I) (nqS : q ≠ S) (nIS : I ≠ S)
    (hR : ∀ i x v H' s', xs[i]? = some x → RelV x v → IsMin KO.lt kf xs.length i → Inv X pins σ H' s' → ExtN H1 H' → Tabs T H' → R (.ok (.ret v)) s') :
    ∀ (r j i : Nat) (H : Hp) (s : Shared) (xb kb : V) (vb kv : Value) (c : Nat), xs.length - (j + 1) = r → j + 1 ≤ xs.length → Inv X pins σ H s → ExtN H1 H → Tabs T H → FpOk X pins H q → FpOk X pins H I → FpOk X pins H S → s.heap.get? q = some lamO →
      s.heap.get? S = some (seqObj "list" #[vb, kv] c) → s.heap.IsListIter I a (j + 1) → xs[i]? = some xb → RelV xb vb → RelV kb kv → KO.KV H kb (kf i) → IsMin KO.lt kf (j + 1) i → i ≤ j →
      codeAny (model X.prog X.w) X.A (.builtin "min.loop" ⟨[.ref I, .ref q, .ref S], []⟩) R s := by
  have hname : (toString "min" ++ toString ".loop" : String) = "min.loop" := by decide
  intro r
  induction r with
  | zero =>
    intro j i H s xb kb vb kv c hr hj Iv eN tb fq fI fS hq hS hit hxb rb rk kk best hij
    have hin : j + 1 = xs.length := by omega
    obtain ⟨its, rv, pl, hz⟩ := Iv.list (sqL_ext eN hx)
    have hlen := rv.length
    refine codeAny_builtin PySem.F.entry_min_loop ?_
    rw [Around.under_plainId PySem.F.plain_min_loop _]
    show wpAny _ X.A.in1 (seqItems? (.ref S) >>= _) _ _ _
    refine wpAny_bind (wpAny_seqItems hS rfl ?_)
    show wpAny _ X.A.in1 (tryCatch (pyNext (.ref I)) _ >>= _) _ _ _
    refine wpAny_bind (wpAny_tryCatch (wpAny_pyNext_list_end (A := X.A.in1) hh hit pl.isList (by simp; omega) fun h' eb => ?_))
    obtain ⟨f0, f1, f2, f3, f4, f5⟩ := fI
    have I1 : Inv X pins σ H { s with heap := h' } := Iv.turned (t' := s.toks) (fun b o hb e => eb b o hb e) f0 f1 f3 f4 f5
    have hS' : h'.get? S = some (seqObj "list" #[vb, kv] c) := eb S _ (Ne.symm nIS) hS
    have s1 := Heap.SameBut.update h' S (Obj.mapSeq fun _ => (#[] : Array Value))
    show wpAny _ X.A.in1 (updateSeq S (fun _ => #[]) >>= _) _ _ _
    refine wpAny_bind ?_
    refine wpAny_updateSeq hS' rfl (wpAny_bind (wpAny_letGo (wpAny_pure ?_)))
    obtain ⟨g0, g1, g2, g3, g4, g5⟩ := fS
    have I2 : Inv X pins σ H { s with heap := h'.update S (Obj.mapSeq fun _ => (#[] : Array Value)) } := I1.turned (s := { s with heap := h' }) (t' := s.toks) (fun b o hb e => (s1.2 b hb).trans e) g0 g1 g3 g4 g5
    exact hR i xb vb H _ hxb rb (hin ▸ best) I2 eN tb
  | succ r ih =>
    intro j i H s xb kb vb kv c hr hj Iv eN tb fq fI fS hq hS hit hxb rb rk kk best hij
    have hlt : j + 1 < xs.length := by omega
    obtain ⟨its, rv, pl, hz⟩ := Iv.list (sqL_ext eN hx)
    have hxj : xs[j + 1]? = some xs[j + 1] := List.getElem?_eq_getElem hlt
    obtain ⟨u, hu, ru⟩ := rv.get hxj
    refine codeAny_builtin PySem.F.entry_min_loop ?_
    rw [Around.under_plainId PySem.F.plain_min_loop _]
    show wpAny _ X.A.in1 (seqItems? (.ref S) >>= _) _ _ _
    refine wpAny_bind (wpAny_seqItems hS rfl ?_)
    show wpAny _ X.A.in1 (tryCatch (pyNext (.ref I)) _ >>= _) _ _ _
    refine wpAny_bind (wpAny_tryCatch (wpAny_pyNext_list_item hit pl.isList (x := u) (by simpa using hu) fun h' hit' sb => ?_))
    obtain ⟨f0, f1, f2, f3, f4, f5⟩ := id fI
    have I1 : Inv X pins σ H { s with heap := h' } := Iv.turned (t' := s.toks) (fun b o hb e => (sb.2 b hb).trans e) f0 f1 f3 f4 f5
    have hS' : h'.get? S = some (seqObj "list" #[vb, kv] c) := (sb.2 S (Ne.symm nIS)).trans hS
    have hq' : h'.get? q = some lamO := (sb.2 q nqI).trans hq
    obtain ⟨oI, hoI, hcI, hdI⟩ := id hit'
    have I1' : Inv X (pins ++ pinsAt [q, I, S] h') σ H { s with heap := h' } := I1.pinned (fun b hb => by
        rcases List.mem_cons.mp hb with rfl | hb
        · exact fq
        · rcases List.mem_cons.mp hb with rfl | hb
          · exact fI
          · rw [List.mem_singleton.mp hb]; exact fS) fun b hb => by
        rcases List.mem_cons.mp hb with rfl | hb
        · exact ⟨_, hq', hl⟩
        · rcases List.mem_cons.mp hb with rfl | hb
          · exact ⟨oI, hoI, fun v z => by rw [hdI] at z; cases z⟩
          · rw [List.mem_singleton.mp hb]; exact ⟨_, hS', fun v z => by cases z⟩
    show wpAny _ X.A.in1 (tryCatch (holding [u] (call (.ref q) [u])) _ >>= _) _ _ _
    refine wpAny_bind (wpAny_tryCatch (wpAny_holding (wpAny_mono (turn (j + 1) _ u H { s with heap := h' } _ _ hxj ru I1' eN tb hq') (fun kn s2 he => ?_) fun _ _ e => e)))
    obtain ⟨k2, H2, I2', rk2, e2, tb2, kk2⟩ := he
    have at_ : ∀ b o, b ∈ [q, I, S] → h'.get? b = some o → s2.heap.get? b = some o ∧ H2 b = none := fun b o hb e => by
      have := I2'.pin (b, o) (List.mem_append_right _ (List.mem_append_right _ (mem_pinsAt hb e)))
      exact ⟨this.1, this.2.1⟩
    have I2 := I2'.unpinned
    obtain ⟨hq2, nq2⟩ := at_ q _ (by simp) hq'
    obtain ⟨hI2, nI2⟩ := at_ I _ (by simp) hoI
    obtain ⟨hS2, nS2⟩ := at_ S _ (by simp) hS'
    have eN2 := eN.trans e2
    show wpAny _ X.A.in1 (tryCatch (holding [u, kn] (richCompare .Lt kn kv >>= _)) _ >>= _) _ _ _
    refine wpAny_bind (wpAny_tryCatch (wpAny_holding (wpAny_bind (KC.cmp X pins σ H2 s2 X.A.in1 k2 kb kn kv _ _ _ _ rfl I2 hun rk2 rk kk2 (KO.mono e2 kk) ?_))))
    refine wpAny_bind (wpAny_holding (wpAny_truthy_bool ?_))
    refine wpAny_bind (wpAny_letGo (wpAny_pure ?_))
    cases hb' : KO.lt (kf (j + 1)) (kf i) with
    | true =>
      have s1 := Heap.SameBut.update s2.heap S (Obj.mapSeq fun _ => #[u, kn])
      obtain ⟨c2, hc2⟩ : ∃ c2, (s2.heap.update S (Obj.mapSeq fun _ => #[u, kn])).get? S = some (seqObj "list" #[u, kn] c2) := ⟨_, get?_update_seq hS2 fun _ => #[u, kn]⟩
      simp only [if_true]
      refine wpAny_bind ?_
      refine wpAny_updateSeq hS2 rfl (wpAny_bind (wpAny_letGo ?_))
      rw [hname]
      obtain ⟨g0, g1, g2, g3, g4, g5⟩ := fS
      have I3 : Inv X pins σ H2 { s2 with heap := s2.heap.update S (Obj.mapSeq fun _ => #[u, kn]) } := I2.turned (t' := s2.toks) (fun b o hb e => (s1.2 b hb).trans e) nS2 g1 g3 g4 g5
      refine wpAny_pure ⟨plainId_quiet PySem.F.plain_min_loop _, ih (j + 1) (j + 1) H2 _ _ k2 u kn c2 (by omega) hlt I3 eN2 tb2 (fp_at fq nq2) (fp_at fI nI2) (fp_at ⟨g0, g1, g2, g3, g4, g5⟩ nS2) ((s1.2 q nqS).trans hq2) hc2 ⟨oI, (s1.2 I nIS).trans hI2, hcI, hdI⟩ hxj ru rk2 kk2 (fun j' hj' => ?_) (Nat.le_refl _)⟩
      by_cases e : j' = j + 1
      · subst e
        exact ⟨KO.swo.refl _, fun z => absurd z (Nat.lt_irrefl _)⟩
      · have b1 := (best j' (by omega)).1
        have b2 := KO.swo.ltle hb' b1
        exact ⟨KO.swo.asym _ _ b2, fun _ => b2⟩
    | false =>
      simp only [Bool.false_eq_true, if_false]
      refine wpAny_bind (wpAny_letGo ?_)
      rw [hname]
      refine wpAny_pure ⟨plainId_quiet PySem.F.plain_min_loop _, ih (j + 1) i H2 _ xb kb vb kv c (by omega) hlt I2 eN2 tb2 (fp_at fq nq2) (fp_at fI nI2) (fp_at fS nS2) hq2 hS2 ⟨oI, hI2, hcI, hdI⟩ hxb rb rk (KO.mono e2 kk) (fun j' hj' => ?_) (by omega)⟩
      by_cases e : j' = j + 1
      · subst e
        exact ⟨hb', fun z => absurd z (by omega)⟩
      · exact best j' (by omega)
theorem min_call (KO : KeyOrd X.K κ) (KC : KeyCmp KO) {kf : Nat → κ} {lamO : Obj} {xs : List V} {a q : Addr} {s : Shared} {Q : VK} (hh : X.A.handled = none) (hun : X.A.in1.units < cLine) (turn : KeyTurn KO X.A.in1 σ H1 T q lamO xs kf) (hx : SqL X.K H1 a xs) (hl : ∀ v, lamO.data ≠ .cell v)
    (h0 : 0 < xs.length) (Iv : Inv X pins σ H1 s) (tb : Tabs T H1) (fq : FpOk X pins H1 q) (hq : s.heap.get? q = some lamO) (hQ : ∀ i x H', xs[i]? = some x → IsMin KO.lt kf xs.length i → ExtN H1 H' → Tabs T H' → Q x H') :
    wpAny (model X.prog X.w) X.A (call (.builtin "min") [.ref a] [(Str.ofString "key", .ref q)]) (EP X pins σ Q) X.xe s := by
  have hname : (toString "min" ++ toString ".loop" : String) = "min.loop" := by decide
  obtain ⟨its, rv, pl, hz⟩ := Iv.list hx
  have hlen := rv.length
  refine kmk_tree PySem.F.kind_min PySem.F.plain_min PySem.F.entry_min (kmk_min_key _ _) ?_
  show wpAny _ X.A.in1 (Builtin.Builtins.bindParams "min" ["key", "default"] 0 ⟨[], [(Str.ofString "key", .ref q)]⟩ >>= _) _ _ s
  refine wpAny_bind (wpAny_of_eq (show Builtin.Builtins.bindParams "min" ["key", "default"] 0 ⟨[], [(Str.ofString "key", .ref q)]⟩ = pure [some (.ref q), none] from rfl) ?_)
  refine wpAny_bind (wpAny_pure ?_)
  refine wpAny_bind (wpAny_pyIter_list pl.isList ?_)
  refine wpAny_bind (wpAny_newList ?_ (Nat.zero_le _))
  rw [hname]
  refine wpAny_pure ⟨plainId_quiet PySem.F.plain_min_loop _, ?_⟩
  have hS : (s.heap.push { cls := .type "list_iterator", data := .fields #[.ref a, .int 0 0] }).objs.size = s.heap.objs.size + 1 := size_push' ..
  rw [hS]
  have gI : ((s.heap.push { cls := .type "list_iterator", data := .fields #[.ref a, .int 0 0] }).push (seqObj "list" #[] 0)).get? s.heap.objs.size = some { cls := .type "list_iterator", data := .fields #[.ref a, .int 0 0] } :=
    Heap.get?_push_of_some _ (Heap.get?_push_size _ rfl)
  have gS : ((s.heap.push { cls := .type "list_iterator", data := .fields #[.ref a, .int 0 0] }).push (seqObj "list" #[] 0)).get? (s.heap.objs.size + 1) = some (seqObj "list" #[] 0) := by
    rw [← hS]
    exact Heap.get?_push_size _ rfl
  have old : ∀ b o, s.heap.get? b = some o → ((s.heap.push { cls := .type "list_iterator", data := .fields #[.ref a, .int 0 0] }).push (seqObj "list" #[] 0)).get? b = some o := fun b o e => Heap.get?_push_of_some _ (Heap.get?_push_of_some _ e)
  have I0 : Inv X pins σ H1 { s with heap := (s.heap.push { cls := .type "list_iterator", data := .fields #[.ref a, .int 0 0] }).push (seqObj "list" #[] 0) } := Iv.kept (t' := s.toks) old
  have fI : FpOk X pins H1 s.heap.objs.size := Iv.fpOk (Nat.le_refl _) (Iv.hok.fresh (Nat.le_refl _))
  have fS : FpOk X pins H1 (s.heap.objs.size + 1) := Iv.fpOk (Nat.le_succ _) (Iv.hok.fresh (Nat.le_succ _))
  have nIS : s.heap.objs.size ≠ s.heap.objs.size + 1 := Nat.ne_of_lt (Nat.lt_succ_self _)
  have hql : q < s.heap.objs.size := Heap.lt_size hq
  have nqI : q ≠ s.heap.objs.size := Nat.ne_of_lt hql
  have nqS : q ≠ s.heap.objs.size + 1 := Nat.ne_of_lt (Nat.lt_succ_of_lt hql)
  generalize ehp : (s.heap.push { cls := .type "list_iterator", data := .fields #[.ref a, .int 0 0] }).push (seqObj "list" #[] 0) = h0' at gI gS old I0
  generalize eI : s.heap.objs.size = I at gI fI fS nIS nqI nqS gS hql
  generalize eS : I + 1 = S at gS fS nIS nqS
  have hq0 := old q _ hq
  have hx0 : xs[0]? = some xs[0] := List.getElem?_eq_getElem h0
  obtain ⟨its', rv', pl', hz'⟩ := I0.list hx
  obtain ⟨u, hu, ru⟩ := rv'.get hx0
  refine codeAny_builtin PySem.F.entry_min_loop ?_
  rw [Around.under_plainId PySem.F.plain_min_loop _]
  show wpAny _ X.A.in1 (seqItems? (.ref S) >>= _) _ _ _
  refine wpAny_bind (wpAny_seqItems (s := { s with heap := h0' }) gS rfl ?_)
  show wpAny _ X.A.in1 (tryCatch (pyNext (.ref I)) _ >>= _) _ _ _
  refine wpAny_bind (wpAny_tryCatch (wpAny_pyNext_list_item (i := 0) ⟨_, gI, rfl, rfl⟩ pl'.isList (x := u) (by simpa using hu) fun h' hit' sb => ?_))
  obtain ⟨f0, f1, f2, f3, f4, f5⟩ := id fI
  have I1 : Inv X pins σ H1 { s with heap := h' } := I0.turned (s := { s with heap := h0' }) (t' := s.toks) (fun b o hb e => (sb.2 b hb).trans e) f0 f1 f3 f4 f5
  have hS' : h'.get? S = some (seqObj "list" #[] 0) := (sb.2 S (Ne.symm nIS)).trans gS
  have hq' : h'.get? q = some lamO := (sb.2 q nqI).trans hq0
  obtain ⟨oI, hoI, hcI, hdI⟩ := id hit'
  have I1' : Inv X (pins ++ pinsAt [q, I, S] h') σ H1 { s with heap := h' } := I1.pinned (fun b hb => by
      rcases List.mem_cons.mp hb with rfl | hb
      · exact fq
      · rcases List.mem_cons.mp hb with rfl | hb
        · exact fI
        · rw [List.mem_singleton.mp hb]; exact fS) fun b hb => by
      rcases List.mem_cons.mp hb with rfl | hb
      · exact ⟨_, hq', hl⟩
      · rcases List.mem_cons.mp hb with rfl | hb
        · exact ⟨oI, hoI, fun v z => by rw [hdI] at z; cases z⟩
        · rw [List.mem_singleton.mp hb]; exact ⟨_, hS', fun v z => by cases z⟩
  show wpAny _ X.A.in1 (tryCatch (holding [u] (call (.ref q) [u])) _ >>= _) _ _ _
  refine wpAny_bind (wpAny_tryCatch (wpAny_holding (wpAny_mono (turn 0 _ u H1 { s with heap := h' } _ _ hx0 ru I1' (ExtN.refl H1) tb hq') (fun kn s2 he => ?_) fun _ _ e => e)))
  obtain ⟨k2, H2, I2', rk2, e2, tb2, kk2⟩ := he
  have at_ : ∀ b o, b ∈ [q, I, S] → h'.get? b = some o → s2.heap.get? b = some o ∧ H2 b = none := fun b o hb e => by
    have := I2'.pin (b, o) (List.mem_append_right _ (List.mem_append_right _ (mem_pinsAt hb e)))
    exact ⟨this.1, this.2.1⟩
  have I2 := I2'.unpinned
  obtain ⟨hq2, nq2⟩ := at_ q _ (by simp) hq'
  obtain ⟨hI2, nI2⟩ := at_ I _ (by simp) hoI
  obtain ⟨hS2, nS2⟩ := at_ S _ (by simp) hS'
  have s1 := Heap.SameBut.update s2.heap S (Obj.mapSeq fun _ => #[u, kn])
  obtain ⟨c2, hc2⟩ : ∃ c2, (s2.heap.update S (Obj.mapSeq fun _ => #[u, kn])).get? S = some (seqObj "list" #[u, kn] c2) := ⟨_, get?_update_seq hS2 fun _ => #[u, kn]⟩
  show wpAny _ X.A.in1 (updateSeq S (fun _ => #[u, kn]) >>= _) _ _ _
  refine wpAny_bind ?_
  refine wpAny_updateSeq hS2 rfl ?_
  rw [hname]
  obtain ⟨g0, g1, g2, g3, g4, g5⟩ := fS
  have I3 : Inv X pins σ H2 { s2 with heap := s2.heap.update S (Obj.mapSeq fun _ => #[u, kn]) } := I2.turned (t' := s2.toks) (fun b o hb e => (s1.2 b hb).trans e) nS2 g1 g3 g4 g5
  refine wpAny_pure ⟨plainId_quiet PySem.F.plain_min_loop _, min_loop KO KC hh hun turn hx hl nqI nqS nIS (fun i x v H' s' hxi rx hm Iv' eN tb' => ⟨x, H', Iv', rx, hQ i x H' hxi hm eN tb'⟩) _ 0 0 H2 _ _ k2 u kn c2 rfl h0 I3 e2 tb2 (fp_at fq nq2) (fp_at fI nI2) (fp_at ⟨g0, g1, g2, g3, g4, g5⟩ nS2) ((s1.2 q nqS).trans hq2) hc2 ⟨oI, (s1.2 I nIS).trans hI2, hcI, hdI⟩ hx0 ru rk2 kk2 (fun j' hj' => ?_) (Nat.le_refl _)⟩
  have e : j' = 0 := by omega
  subst e
  exact ⟨KO.swo.refl _, fun z => absurd z (Nat.lt_irrefl _)⟩
/-- what a key's reading tells for the items of the list x -/
def KeyPost (K : PySem.W.Frag) (T : List (Addr × Str)) (KO : KeyOrd K κ) (j : Nat) (tb : TE) (σ : L2.St) (Z : (xs : List V) → (Nat → κ) → Hp → Prop) (vs : List V) (H1 : Hp) : Prop :=
  ∃ x, vs = [x] ∧ Tabs T H1 ∧ ∀ H2, ExtN H1 H2 → Tabs T H2 → ∃ (a : Addr) (xs : List V) (kf : Nat → κ), x = .ref a ∧ SqL K H2 a xs ∧
    (∀ i y H', xs[i]? = some y → ExtN H2 H' → Tabs T H' → tb (σ.set j (some y)) H' fun k H'' => ExtN H' H'' ∧ Tabs T H'' ∧ KO.KV H'' k (kf i)) ∧ Z xs kf H2
/-- min(e, key=lambda p: body), the name p in slot j -/
def tMinK (K : PySem.W.Frag) (T : List (Addr × Str)) (KO : KeyOrd K κ) (j : Nat) (te tb : TE) : TE := fun σ H Q => te σ H fun x H1 => KeyPost K T KO j tb σ (fun xs kf H2 => 0 < xs.length ∧ ∀ i y H', xs[i]? = some y → IsMin KO.lt kf xs.length i → ExtN H2 H' → Tabs T H' → Q y H') [x] H1
theorem pe_minK {e body : Expr} {te tb : TE} {params : Arguments} {scope : Scope} {p : Str} {j k : Nat} {c P : Addr} {fp lpos kpos pos : Pos} (KO : KeyOrd X.K κ) (KC : KeyCmp KO) (hc : X.calm = true) (hg : Gl X "min") (hm : X.mg "min" = none) (he : PE X e te)
    (TB : TabB X.base X.mg c P) (hcode : X.env.code = .ref c) (hmT : (P, X.env.qual ++ "<lambda>") ∈ T) (hu : ∀ p ∈ T, p.1 = P → p.2 = X.env.qual ++ "<lambda>") (hr : Room (k + 2) X.A) (L : LamS1 X.env.scope scope p) (hN : X.N.Nodup) (hj : X.N[j]? = some p)
    (hdef : defaultsOf params X.env = ([], []))
    (hbind : ∀ (q : Str) (cl : List (Str × Addr)) (pm cv ctv v : Value), bindArgs (PySem.W.kla_fn "<lambda>" q params body scope cl pm cv ctv) ⟨[v], []⟩ = pure [(p, v)])
    (hbody : ∀ (s : Shared) (H : Hp) (f c' : Addr), Room k (X.A.in1.deeper (lamEnv X scope s.heap.objs.size f c')) → PE (lamCx1 X X.A.in1 s H scope f c') body tb)
    (hs0 : starEach [e] X.env = (false, eval e X.env) :: starEach [] X.env := by rfl) (hs : backTo pos (starEach [e] X.env) = (false, eval e X.env) :: backTo pos (starEach [] X.env) := by rfl) (hpl : (backTo pos (starEach [e] X.env)).any (·.1) = false := by rfl)
    (hall : (backToKw pos (keywordEach [⟨some "key", .Lambda params body scope lpos, kpos⟩] X.env)).all (·.1.isSome) = true := by rfl) (hnone : (backToKw pos (keywordEach [⟨some "key", .Lambda params body scope lpos, kpos⟩] X.env)).any (·.1.isNone) = false := by rfl)
    (hks : (backToKw pos (keywordEach [⟨some "key", .Lambda params body scope lpos, kpos⟩] X.env)).filterMap (·.1) = [Str.ofString "key"] := by rfl) :
    PE X (.Call (.Name "min" fp) [e] [⟨some "key", .Lambda params body scope lpos, kpos⟩] pos) (tMinK X.K T KO j te tb) := by
  refine ⟨fun pins s σ H Q I h => ?_⟩
  refine wpAny_Call_Name_kw (ld_blt I hg hm (u := .builtin "min") (by decide +kernel) ?_ (by decide) (by decide))
  refine PyProof.Rows.callWith_kw (thn ((pa_cons he pa_nil hs0).run pos pins s σ H (fun vs H1 => KeyPost X.K T KO j tb σ (fun xs kf H2 => 0 < xs.length ∧ ∀ i y H', xs[i]? = some y → IsMin KO.lt kf xs.length i → ExtN H2 H' → Tabs T H' → Q y H') vs H1) I h) fun us s1 ⟨vs, H1, I1, r1, q1⟩ => ?_) hs hpl hall hnone
  rw [hks]
  obtain ⟨x, rfl, hT, q1⟩ := q1
  show wpAny _ _ (evalAll [do let v ← eval (.Lambda params body scope lpos) X.env; standAt _; pure v]) _ _ _
  refine wpAny_evalAll_cons (wpAny_bind (lam_new I1 TB hcode hmT hu hT hdef (L.has I1.ok) fun f c' pm ctv H2 s2 m => wpAny_bind (wpAny_standAt (wpAny_pure ?_))))
  refine wpAny_evalAll_nil ?_
  obtain ⟨a, xs, kf, rfl, hx, ht, h0, hq⟩ := q1 H2 m.ext m.tabs
  obtain rfl := Vals.ref1 r1
  have r1' := hr.in1
  refine min_call KO KC (m.inv.ok.hd hc) (by have := r1'.un; omega) (fun i y v H' s' pins' E hxi ry I' e' t' hq' => ?_) hx (fun v z => by cases z) h0 m.inv m.tabs m.fp m.obj hq
  exact lam_call1 I' L hN hj ry I'.ok.frames r1' hq' (e' _ _ m.code codeO_ne) (hbind _ _ _ _ _ _) (fun s H hr => hbody s H f c' hr) (ht i y H' hxi e' t')
end
end Fx

set_option Elab.async false
set_option linter.all false
set_option maxRecDepth 100000
set_option maxHeartbeats 4000000
/-! sorted(l, key=lambda x: ..). -/
namespace Fx
open PySem PySem.Spec PyProof.Rows L2 LamX
/-! ### the stable sort as a function -/
section
variable {α β : Type}
def ins (lt : α → α → Bool) (x : α) : List α → List α
  | [] => [x]
  | y :: r => if lt y x = true then y :: ins lt x r else x :: y :: r
def isort (lt : α → α → Bool) : List α → List α
  | [] => []
  | x :: r => ins lt x (isort lt r)
theorem ins_perm (lt : α → α → Bool) (x : α) : ∀ l, (ins lt x l).Perm (x :: l)
  | [] => List.Perm.refl _
  | y :: r => by
    unfold ins
    split
    · exact (List.Perm.cons y (ins_perm lt x r)).trans (List.Perm.swap x y r)
    · exact List.Perm.refl _
theorem isort_perm (lt : α → α → Bool) : ∀ l, (isort lt l).Perm l
  | [] => List.Perm.refl _
  | x :: r => (ins_perm lt x _).trans (List.Perm.cons x (isort_perm lt r))
theorem ins_srtd {lt : α → α → Bool} (O : SrtO.Swo lt) (x : α) : ∀ {l}, SrtO.Srtd lt l → SrtO.Srtd lt (ins lt x l)
  | [], _ => List.pairwise_singleton _ _
  | y :: r, h => by
    unfold ins
    by_cases c : lt y x = true
    · rw [if_pos c]
      refine List.pairwise_cons.mpr ⟨fun z hz => ?_, ins_srtd O x (List.pairwise_cons.mp h).2⟩
      rcases List.mem_cons.mp ((ins_perm lt x r).mem_iff.mp hz) with e | hz
      · rw [e]; exact O.asym _ _ c
      · exact (List.pairwise_cons.mp h).1 z hz
    · rw [if_neg c]
      have c' : lt y x = false := by simpa using c
      refine List.pairwise_cons.mpr ⟨fun z hz => ?_, h⟩
      rcases List.mem_cons.mp hz with e | hz
      · rw [e]; exact c'
      · exact O.tr x y z c' ((List.pairwise_cons.mp h).1 z hz)
theorem isort_srtd {lt : α → α → Bool} (O : SrtO.Swo lt) : ∀ l, SrtO.Srtd lt (isort lt l)
  | [] => List.Pairwise.nil
  | x :: r => ins_srtd O x (isort_srtd O r)
theorem ins_cls {lt : α → α → Bool} (O : SrtO.Swo lt) (x z : α) : ∀ l, (ins lt x l).filter (SrtO.eqv lt z) = (x :: l).filter (SrtO.eqv lt z)
  | [] => rfl
  | y :: r => by
    unfold ins
    by_cases c : lt y x = true
    · rw [if_pos c, List.filter_cons, ins_cls O x z r, List.filter_cons, List.filter_cons, List.filter_cons]
      by_cases hx : SrtO.eqv lt z x = true
      · have hy : ¬ SrtO.eqv lt z y = true := by
          intro hy
          unfold SrtO.eqv at hx hy
          simp only [Bool.and_eq_true, Bool.not_eq_true'] at hx hy
          have q := O.tr x z y hx.1 hy.2
          rw [c] at q
          cases q
        rw [if_neg hy, if_pos hx, if_neg hy, if_pos hx]
      · rw [if_neg hx, if_neg hx]
    · rw [if_neg c]
theorem isort_stb {lt : α → α → Bool} (O : SrtO.Swo lt) : ∀ l, SrtO.Stb lt (isort lt l) l
  | [] => SrtO.Stb.refl _
  | x :: r => ⟨isort_perm lt _, fun z => by
    show (ins lt x (isort lt r)).filter _ = _
    rw [ins_cls O, List.filter_cons, List.filter_cons, (isort_stb O r).cls z]⟩
theorem srtd_uniq {lt : α → α → Bool} (O : SrtO.Swo lt) : ∀ (l m : List α), SrtO.Srtd lt l → SrtO.Srtd lt m → l.length = m.length → (∀ x, l.filter (SrtO.eqv lt x) = m.filter (SrtO.eqv lt x)) → l = m
  | [], [], _, _, _, _ => rfl
  | [], _ :: _, _, _, h, _ => by simp at h
  | _ :: _, [], _, _, h, _ => by simp at h
  | a :: l, b :: m, h1, h2, hl, hc => by
    have rf : ∀ x, SrtO.eqv lt x x = true := fun x => by unfold SrtO.eqv; rw [O.refl]; rfl
    have ha := hc a
    have hb := hc b
    rw [List.filter_cons_of_pos (rf a)] at ha
    rw [List.filter_cons_of_pos (rf b)] at hb
    have am : a ∈ b :: m := (List.mem_filter.mp (by rw [← ha]; exact List.mem_cons_self)).1
    have bl : b ∈ a :: l := (List.mem_filter.mp (by rw [hb]; exact List.mem_cons_self)).1
    have e1 : lt a b = false := by
      rcases List.mem_cons.mp am with e | am
      · rw [e]; exact O.refl _
      · exact (List.pairwise_cons.mp h2).1 a am
    have e2 : lt b a = false := by
      rcases List.mem_cons.mp bl with e | bl
      · rw [e]; exact O.refl _
      · exact (List.pairwise_cons.mp h1).1 b bl
    have eab : SrtO.eqv lt a b = true := by unfold SrtO.eqv; rw [e1, e2]; rfl
    have e3 := ha
    rw [List.filter_cons_of_pos eab] at e3
    have e4 : a = b := (List.cons.inj e3).1
    subst e4
    rw [srtd_uniq O l m (List.pairwise_cons.mp h1).2 (List.pairwise_cons.mp h2).2 (by simpa using hl) fun x => ?_]
    have q := hc x
    rw [List.filter_cons, List.filter_cons] at q
    by_cases c : SrtO.eqv lt x a = true
    · rw [if_pos c, if_pos c] at q
      exact (List.cons.inj q).2
    · rw [if_neg c, if_neg c] at q
      exact q
theorem eq_isort {lt : α → α → Bool} (O : SrtO.Swo lt) {l m : List α} (h1 : SrtO.Srtd lt l) (h2 : SrtO.Stb lt l m) : l = isort lt m :=
  srtd_uniq O _ _ h1 (isort_srtd O m) (by rw [h2.len, (isort_stb O m).len]) fun x => by rw [h2.cls x, (isort_stb O m).cls x]
theorem ins_map {lt : β → β → Bool} {lt' : α → α → Bool} (f : α → β) (x : α) : ∀ l : List α, (∀ y ∈ l, lt (f y) (f x) = lt' y x) → ins lt (f x) (l.map f) = (ins lt' x l).map f
  | [], _ => rfl
  | y :: r, h => by
    rw [List.map_cons]
    unfold ins
    rw [h y List.mem_cons_self]
    by_cases c : lt' y x = true
    · rw [if_pos c, if_pos c, List.map_cons, ins_map f x r fun z hz => h z (List.mem_cons_of_mem _ hz)]
    · rw [if_neg c, if_neg c]; rfl
theorem isort_map {lt : β → β → Bool} {lt' : α → α → Bool} (f : α → β) : ∀ l : List α, (∀ x ∈ l, ∀ y ∈ l, lt (f y) (f x) = lt' y x) → isort lt (l.map f) = (isort lt' l).map f
  | [], _ => rfl
  | x :: r, h => by
    show ins lt (f x) (isort lt (r.map f)) = (ins lt' x (isort lt' r)).map f
    rw [isort_map f r fun a ha b hb => h a (List.mem_cons_of_mem _ ha) b (List.mem_cons_of_mem _ hb)]
    exact ins_map f x _ fun y hy => h x List.mem_cons_self y (List.mem_cons_of_mem _ ((isort_perm lt' r).mem_iff.mp hy))
end
/-! ### an own record that is tracked from now on -/
section
variable {X : Cx} {pins : List (Addr × Obj)} {σ : L2.St} {H : Hp} {s : Shared}
theorem Inv.adopt {D : Addr} {o : HO} (I : Inv X pins σ H s) (f : FpOk X pins H D) (h0 : X.s_0.heap.objs.size ≤ D) (new : ObjOk X.prog X.w (upd H D o) s.heap D o) : Inv X pins σ (upd H D o) s := by
  obtain ⟨f0, f1, f2, f3, f4, f5⟩ := f
  have ne0 : ∀ b u, X.s_0.heap.get? b = some u → b ≠ D := fun b u e z => by
    rw [z] at e
    exact Nat.lt_irrefl _ (Nat.lt_of_lt_of_le (Heap.lt_size e) h0)
  have neH : ∀ b u, H b = some u → b ≠ D := fun b u e => ne_of_none e f0
  refine ⟨I.ok, I.os, I.bare, ⟨I.base.keep, I.base.slot, fun b u e n hx => ?_, I.base.there, fun b xs e => ?_, fun b ob u e => ?_, fun b ps e => ?_⟩, I.loc, I.cell, ?_, fun x c e => ?_, fun p hp => ?_, fun b u e => ?_, I.len⟩
  · rw [upd_ne (ne0 b u e)]
    exact I.base.free b u e n hx
  · have q := I.base.tups b xs e
    rw [upd_ne (neH b _ q)]
    exact q
  · have q := I.base.frzs b ob u e
    rw [upd_ne (neH b _ q)]
    exact q
  · obtain ⟨m, q⟩ := I.base.tbls b ps e
    exact ⟨m, by rw [upd_ne (neH b _ q)]; exact q⟩
  · rw [upd_ne (Ne.symm f1)]
    exact I.free
  · rw [upd_ne (f4 x c e)]
    exact I.freeC x c e
  · obtain ⟨q1, q2, q3⟩ := I.pin p hp
    exact ⟨q1, by rw [upd_ne (f5 p hp)]; exact q2, q3⟩
  · by_cases hb : b = D
    · rw [hb, upd_same] at e
      cases e
      rw [hb]
      exact new
    · rw [upd_ne hb] at e
      refine (I.hok b u e).stay (fun c v _ q => q) (fun c q => ?_) fun c xs q => ?_
      · rw [upd_ne (neH c _ q)]; exact q
      · rw [upd_ne (neH c _ q)]; exact q
end
/-- keys that the sort can compare: the kind that it finds, and its order on the values -/
def KeySort {K : PySem.W.Frag} {κ : Type} (KO : KeyOrd K κ) : Prop := ∀ (X : Cx) (pins : List (Addr × Obj)) (σ : L2.St) (H : Hp) (s : Shared) (A : Around) (ks : List V) (us : List Value) (as : List κ), X.K = K → Inv X pins σ H s → A.units + 64 < cLine → Vals ks us → Paired (KO.KV H) ks as → 2 ≤ us.length →
  ∃ (kd : SortKind) (ltv : Value → Value → Bool), SrtO.Swo ltv ∧ (∀ (Q : SortKind → Shared → Prop) (E : Value → Shared → Prop), Q kd s → wpAny (model X.prog X.w) A (keyKind' us.toArray) Q E s) ∧ SrtO.Cmp X.prog X.w A s kd (fun p => p.1 ∈ us) (SrtO.lt2 ltv) ∧
    ∀ (i j : Nat) u v a b, us[i]? = some u → us[j]? = some v → as[i]? = some a → as[j]? = some b → ltv u v = KO.lt a b
theorem ints_of_keys {K : PySem.W.Frag} {H : Hp} : ∀ {ks : List V} {us : List Value} {as : List Int}, Vals ks us → Paired ((keyInt K).KV H) ks as → IntsAre us as
  | _, _, _, .nil, .nil => .nil
  | _, _, _, .cons r t, .cons q p => by
    have q : _ = V.int _ := q
    subst q
    obtain ⟨tk, rfl⟩ := r
    exact .cons _ tk (ints_of_keys t p)
theorem keySort_int {K : PySem.W.Frag} : KeySort (keyInt K) := by
  intro X pins σ H s A ks us as hK I hu rv pk h2
  have hI := ints_of_keys rv pk
  refine ⟨oneType', SrtO.ltIv, SrtO.swo_int, fun Q E hq => ?_, SrtO.int_cmp hI, fun i j u v a b hu hv ha hb => ?_⟩
  · rw [ksk_kind (keys := us.toArray) (by simpa using hI) (by simpa using h2)]
    exact wpAny_pure hq
  · obtain ⟨t, e1⟩ := hI.get i a ha
    obtain ⟨t', e2⟩ := hI.get j b hb
    rw [hu] at e1
    rw [hv] at e2
    cases e1
    cases e2
    rfl
section
variable {X : Cx} {pins : List (Addr × Obj)} {σ : L2.St} {H1 : Hp} {T : List (Addr × Str)} {κ : Type}
theorem paired_snoc {α β : Type} {F : α → β → Prop} {x : α} {y : β} (h : F x y) : ∀ {l : List α} {m : List β}, Paired F l m → Paired F (l ++ [x]) (m ++ [y])
  | _, _, .nil => .cons h .nil
  | _, _, .cons q r => .cons q (paired_snoc h r)
/-- the items in their order -/
def sortedBy (lt : κ → κ → Bool) (kf : Nat → κ) (xs : List V) : List V := (isort (fun i j => lt (kf i) (kf j)) (List.range xs.length)).map fun i => xs.getD i .non
theorem zip_range (us vs : List Value) (h : us.length = vs.length) : us.zip vs = (List.range vs.length).map fun i => (us.getD i .none, vs.getD i .none) := by
  apply List.ext_getElem?
  intro i
  rw [List.getElem?_map]
  by_cases hi : i < vs.length
  · have hu : i < us.length := by omega
    rw [List.getElem?_range hi, List.getElem?_zip_eq_some (z := (us[i], vs[i])) |>.mpr ⟨List.getElem?_eq_getElem hu, List.getElem?_eq_getElem hi⟩]
    simp [List.getD_eq_getElem?_getD, hi, hu]
  · rw [List.getElem?_eq_none (by simp; omega), List.getElem?_eq_none (by simp; omega)]
    rfl
theorem getD_map_range (vs : List Value) : vs = (List.range vs.length).map fun i => vs.getD i .none := by
  apply List.ext_getElem?
  intro i
  rw [List.getElem?_map]
  by_cases hi : i < vs.length
  · rw [List.getElem?_range hi, List.getElem?_eq_getElem hi]
    simp [List.getD_eq_getElem?_getD, hi]
  · rw [List.getElem?_eq_none (by omega), List.getElem?_eq_none (by simp; omega)]
    rfl
theorem vals_pick {xs : List V} {vs : List Value} (rv : Vals xs vs) : ∀ {l : List Nat}, (∀ i ∈ l, i < xs.length) → Vals (l.map fun i => xs.getD i .non) (l.map fun i => vs.getD i .none)
  | [], _ => .nil
  | i :: l, h => by
    have hi := h i List.mem_cons_self
    obtain ⟨u, hu, r⟩ := rv.get (List.getElem?_eq_getElem hi)
    refine .cons ?_ (vals_pick rv fun j hj => h j (List.mem_cons_of_mem _ hj))
    have e1 : xs.getD i .non = xs[i] := by simp [List.getD_eq_getElem?_getD, hi]
    have e2 : vs.getD i .none = u := by simp [List.getD_eq_getElem?_getD, hu]
    show L2.RelV (xs.getD i .non) (vs.getD i .none)
    rw [e1, e2]
    exact r
theorem sort_tail {KO : KeyOrd X.K κ} {kf : Nat → κ} {xs : List V} {vs : List Value} {D kS : Addr} {A : Around} {e e1 : Nat} {kA : Array Value} {H' : Hp} {s' : Shared} {st' : SortSt} {P : PySem.Fin → Shared → Prop} {E : Value → Shared → Prop} (hzv : vs.length ≤ sizeLine) (rv : Vals xs vs) (I' : Inv X pins σ H' s') (szD : X.s_0.heap.objs.size ≤ D) (fD : FpOk X pins H' D) (fS : FpOk X pins H' kS) (nDS : D ≠ kS)
    (hD' : s'.heap.get? D = some (seqObj "list" #[] e1)) (hS' : s'.heap.get? kS = some (seqObj "list" kA e)) (hkl : kA.size = vs.length) (hf : failedOf st' = none)
    (ho : (arrOf st').toList.map (·.2) = (isort (fun i j => KO.lt (kf i) (kf j)) (List.range xs.length)).map fun i => vs.getD i .none)
    (h : ∀ s'', Inv X pins σ (upd H' D (.lst (sortedBy KO.lt kf xs))) s'' → P (.done (.ret .none)) s'') : wpAny (model X.prog X.w) A (ksk_tail D false e1 (.ref kS) st') P E s' := by
  have hlen := rv.length
  have hp := isort_perm (fun i j => KO.lt (kf i) (kf j)) (List.range xs.length)
  have hn : (arrOf st').size = vs.length := by
    have q := congrArg List.length ho
    rw [List.length_map, List.length_map, hp.length_eq, List.length_range, Array.length_toList] at q
    rw [q, hlen]
  have s1 := Heap.SameBut.update s'.heap kS (Obj.mapSeq fun _ => (#[] : Array Value))
  have na1 : (s'.heap.update kS (Obj.mapSeq fun _ => (#[] : Array Value))).get? D = some (seqObj "list" #[] e1) := (s1.2 D nDS).trans hD'
  have s2 := Heap.SameBut.update (s'.heap.update kS (Obj.mapSeq fun _ => (#[] : Array Value))) D (Obj.mapSeq fun _ => (arrOf st').map (·.2))
  obtain ⟨c2, hc2⟩ : ∃ c2, ((s'.heap.update kS (Obj.mapSeq fun _ => (#[] : Array Value))).update D (Obj.mapSeq fun _ => (arrOf st').map (·.2))).get? D = some (seqObj "list" ((arrOf st').map (·.2)) c2) := ⟨_, get?_update_seq na1 fun _ => (arrOf st').map (·.2)⟩
  unfold ksk_tail
  try dsimp only
  refine wpAny_bind (listUpdate_at hS' rfl ?_ (by rw [hkl]; exact hzv) (Nat.zero_le _))
  refine wpAny_bind (wpAny_letGo ?_)
  refine wpAny_bind (seqEpoch_at na1 rfl ?_)
  refine wpAny_bind (listUpdate_at na1 rfl ?_ (Nat.zero_le _) (by simp only [Bool.false_eq_true, if_false, Array.size_map, hn]; exact Nat.le_succ_of_le hzv))
  rw [hf]
  simp only [bne_self_eq_false, Bool.false_eq_true, if_false]
  refine wpAny_pure (h _ ?_)
  obtain ⟨g0, g1, g2, g3, g4, g5⟩ := id fS
  obtain ⟨d0, d1, d2, d3, d4, d5⟩ := id fD
  have I1 : Inv X pins σ H' { s' with heap := s'.heap.update kS (Obj.mapSeq fun _ => (#[] : Array Value)) } := I'.turned (t' := s'.toks) (fun b o hb e => (s1.2 b hb).trans e) g0 g1 g3 g4 g5
  have I2 : Inv X pins σ H' { s' with heap := (s'.heap.update kS (Obj.mapSeq fun _ => (#[] : Array Value))).update D (Obj.mapSeq fun _ => (arrOf st').map (·.2)) } := I1.turned (t' := s'.toks) (fun b o hb e => (s2.2 b hb).trans e) d0 d1 d3 d4 d5
  have hm : ∀ i ∈ isort (fun i j => KO.lt (kf i) (kf j)) (List.range xs.length), i < xs.length := fun i hi => List.mem_range.mp (hp.mem_iff.mp hi)
  have rr := vals_pick rv hm
  have zl : (sortedBy KO.lt kf xs).length ≤ sizeLine := by
    unfold sortedBy
    rw [List.length_map, hp.length_eq, List.length_range, hlen]
    exact hzv
  refine Inv.adopt I2 fD szD ⟨zl, _, c2, rr, ?_⟩
  have ea : ((isort (fun i j => KO.lt (kf i) (kf j)) (List.range xs.length)).map fun i => vs.getD i .none).toArray = (arrOf st').map (·.2) := by
    rw [← ho]
    apply Array.toList_inj.mp
    simp
  rw [ea]
  exact hc2
theorem sort_end {KO : KeyOrd X.K κ} (KS : KeySort KO) {kf : Nat → κ} {xs ks : List V} {vs : List Value} {D kS : Addr} {A : Around} {e e1 : Nat} {kA : Array Value} {H' : Hp} {s' : Shared} {P : PySem.Fin → Shared → Prop} {E : Value → Shared → Prop} (hu : A.units + 64 < cLine) (hzv : vs.length ≤ sizeLine) (rv : Vals xs vs) (I' : Inv X pins σ H' s') (szD : X.s_0.heap.objs.size ≤ D) (fD : FpOk X pins H' D) (fS : FpOk X pins H' kS) (nDS : D ≠ kS)
    (hD' : s'.heap.get? D = some (seqObj "list" #[] e1)) (hS' : s'.heap.get? kS = some (seqObj "list" kA e)) (hkl : kA.size = vs.length) (rk : Vals ks kA.toList) (pk : Paired (KO.KV H') ks ((List.range vs.length).map kf))
    (h : ∀ s'', Inv X pins σ (upd H' D (.lst (sortedBy KO.lt kf xs))) s'' → P (.done (.ret .none)) s'') : wpAny (model X.prog X.w) A (ksk_end D false vs.toArray e1 (.ref kS) kA) P E s' := by
  have hlen := rv.length
  have hkl2 : kA.toList.length = vs.length := by rw [Array.length_toList]; exact hkl
  have ez : (kA.zip vs.toArray).toList = (List.range vs.length).map fun i => (kA.toList.getD i .none, vs.getD i .none) := by
    rw [ksk_zip]
    exact zip_range _ _ hkl2
  unfold ksk_end
  try dsimp only
  simp only [Bool.false_eq_true, if_false]
  by_cases h2 : vs.toArray.size < 2
  · rw [if_pos h2, if_pos h2]
    refine wpAny_bind (wpAny_pure ?_)
    rw [StateT.run_pure]
    refine wpAny_bind (wpAny_pure ?_)
    try dsimp only
    refine sort_tail (kf := kf) (KO := KO) hzv rv I' szD fD fS nDS hD' hS' hkl rfl ?_ h
    have el : (arrOf (SortSt.mk' general' (kA.zip vs.toArray) #[] 7 none)).toList = (kA.zip vs.toArray).toList := rfl
    rw [el, ez, List.map_map, hlen]
    rw [List.size_toArray] at h2
    have e3 : isort (fun i j => KO.lt (kf i) (kf j)) (List.range vs.length) = List.range vs.length := by
      have : vs.length = 0 ∨ vs.length = 1 := by omega
      rcases this with e | e <;> rw [e] <;> rfl
    rw [e3]
    rfl
  · rw [if_neg h2, if_neg h2]
    rw [List.size_toArray] at h2
    obtain ⟨kd, ltv, swo, hkind, hcmp, heq⟩ := KS X pins σ H' s' A ks kA.toList _ rfl I' hu rk pk (by omega)
    rw [Array.toArray_toList] at hkind
    refine wpAny_bind (hkind _ _ ?_)
    have hall : SrtO.AllL (fun p : Keyed => p.1 ∈ kA.toList) (kA.zip vs.toArray).toList := fun p hm => by
      rw [ksk_zip] at hm
      exact (List.of_mem_zip (show (p.1, p.2) ∈ _ from hm)).1
    refine wpAny_bind (wpAny_mono (SrtO.wpS_sortO (st0 := SortSt.mk' kd (kA.zip vs.toArray) #[] 7 none)
      (Q := fun _ st' => SrtO.Srtd (SrtO.lt2 ltv) (arrOf st').toList ∧ SrtO.Stb (SrtO.lt2 ltv) (arrOf st').toList (kA.zip vs.toArray).toList ∧ failedOf st' = none) (SrtO.swo2 swo) hcmp rfl hall rfl rfl fun st' a1 a2 a3 => ⟨a1, a2, a3⟩) ?_ fun _ _ e => e)
    rintro ⟨⟨⟩, st'⟩ s2 ⟨rfl, hp1, hp2, hf⟩
    try dsimp only
    refine sort_tail (kf := kf) (KO := KO) hzv rv I' szD fD fS nDS hD' hS' hkl hf ?_ h
    rw [eq_isort (SrtO.swo2 swo) hp1 hp2, ez, hlen, isort_map (lt' := fun i j => KO.lt (kf i) (kf j)), List.map_map]
    · rfl
    · intro i hi j hj
      have hi' := List.mem_range.mp hi
      have hj' := List.mem_range.mp hj
      have gi : kA.toList[i]? = some (kA.toList.getD i .none) := by rw [List.getD_eq_getElem?_getD, List.getElem?_eq_getElem (by omega)]; rfl
      have gj : kA.toList[j]? = some (kA.toList.getD j .none) := by rw [List.getD_eq_getElem?_getD, List.getElem?_eq_getElem (by omega)]; rfl
      exact heq j i _ _ _ _ gj gi (by rw [List.getElem?_map, List.getElem?_range hj']; rfl) (by rw [List.getElem?_map, List.getElem?_range hi']; rfl)
theorem sorted_call (KO : KeyOrd X.K κ) (KS : KeySort KO) {kf : Nat → κ} {lamO : Obj} {xs : List V} {a q : Addr} {s : Shared} {Q : VK} (hh : X.A.handled = none) (hun : X.A.in1.in1.units + 64 < cLine) (turn : KeyTurn KO X.A.in1.in1 σ H1 T q lamO xs kf) (hx : SqL X.K H1 a xs) (hl : ∀ v, lamO.data ≠ .cell v)
    (Iv : Inv X pins σ H1 s) (tb : Tabs T H1) (fq : FpOk X pins H1 q) (hq : s.heap.get? q = some lamO) (hQ : ∀ H' p, ExtN H1 H' → Tabs T H' → H' p = none → Q (.ref p) (upd H' p (.lst (sortedBy KO.lt kf xs)))) :
    wpAny (model X.prog X.w) X.A (call (.builtin "sorted") [.ref a] [(Str.ofString "key", .ref q)]) (EP X pins σ Q) X.xe s := by
  obtain ⟨vs, rv, pl, hz⟩ := Iv.list hx
  have hlen := rv.length
  have hzv : vs.length ≤ sizeLine := by rw [← hlen]; exact hz
  refine call_function_entry_kw kind_sorted plain_sorted entry_sorted (ksk_s1 _ _) ?_
  unfold Builtin.«sorted»
  refine wpAny_bind (m := checkCount "sorted" 1 1 _) (wpAny_pure ?_)
  refine wpAny_bind (collect_list pl.isList ?_ hzv)
  refine wpAny_bind (wpAny_newList ?_ hzv)
  have hsz : ((s.heap.push (seqObj "list" #[] 0)).update s.heap.objs.size (Obj.mapSeq (· ++ vs.toArray))).objs.size = s.heap.objs.size + 1 := by
    rw [Heap.size_update, size_push']
  have hoL : (((s.heap.push (seqObj "list" #[] 0)).update s.heap.objs.size (Obj.mapSeq (· ++ vs.toArray))).push (seqObj "list" vs.toArray 0)).get? (s.heap.objs.size + 1) = some (seqObj "list" vs.toArray 0) := by
    rw [← hsz]; exact Heap.get?_push_size _ rfl
  have keep : ∀ b o, s.heap.get? b = some o → (((s.heap.push (seqObj "list" #[] 0)).update s.heap.objs.size (Obj.mapSeq (· ++ vs.toArray))).push (seqObj "list" vs.toArray 0)).get? b = some o := fun b o e => by
    have hlt : b < s.heap.objs.size := Heap.lt_size e
    refine Heap.get?_push_of_some _ ?_
    rw [Heap.get?_update_ne _ _ _ _ (Nat.ne_of_lt hlt)]
    exact Heap.get?_push_of_some _ e
  show wpAny _ _ _ _ _ { s with heap := ((s.heap.push (seqObj "list" #[] 0)).update s.heap.objs.size (Obj.mapSeq (· ++ vs.toArray))).push (seqObj "list" vs.toArray 0) }
  rw [hsz]
  have hsA : (((s.heap.push (seqObj "list" #[] 0)).update s.heap.objs.size (Obj.mapSeq (· ++ vs.toArray))).push (seqObj "list" vs.toArray 0)).objs.size = s.heap.objs.size + 2 := by
    rw [size_push', hsz]
  have hD : s.heap.objs.size ≤ s.heap.objs.size + 1 := Nat.le_succ _
  have hqs : q < s.heap.objs.size := Heap.lt_size hq
  generalize hA : ((s.heap.push (seqObj "list" #[] 0)).update s.heap.objs.size (Obj.mapSeq (· ++ vs.toArray))).push (seqObj "list" vs.toArray 0) = hp0 at hoL keep hsA
  generalize eD : s.heap.objs.size + 1 = D at hoL hD
  refine wpAny_bind (wpAny_holding (wpAny_call_entry_kw slot_list_sort (s := { s with heap := hp0 }) ⟨_, hoL, rfl⟩ entry_list_sort ?_ (ksk_l1 _ _)))
  show wpAny (model X.prog X.w) X.A.in1.in1 (Builtin.«list.sort» ⟨[.ref D], [(Str.ofString "key", .ref q)]⟩) _ _ _
  rw [ksk_t1]
  unfold ksk_tree
  have s1 := Heap.SameBut.update hp0 D (Obj.mapSeq fun _ => (#[] : Array Value))
  obtain ⟨e1, ho1⟩ : ∃ e1, (hp0.update D (Obj.mapSeq fun _ => (#[] : Array Value))).get? D = some (seqObj "list" #[] e1) := ⟨_, get?_update_seq hoL fun _ => #[]⟩
  refine wpAny_bind (listItems_at hoL rfl ?_)
  refine wpAny_bind (listUpdate_at hoL rfl ?_ (by rw [List.size_toArray]; exact hzv) (Nat.zero_le _))
  refine wpAny_bind (seqEpoch_at ho1 rfl ?_)
  refine wpAny_bind (wpAny_newTuple ?_ (by show vs.length ≤ _; exact hzv))
  refine wpAny_bind (wpAny_newList ?_ (Nat.zero_le _))
  refine wpAny_holding ?_
  have hk2 : ((hp0.update D (Obj.mapSeq fun _ => (#[] : Array Value))).push (seqObj "tuple" vs.toArray 0)).objs.size = s.heap.objs.size + 3 := by
    rw [size_push', Heap.size_update, hsA]
  have keepB : ∀ b o, s.heap.get? b = some o → (((hp0.update D (Obj.mapSeq fun _ => (#[] : Array Value))).push (seqObj "tuple" vs.toArray 0)).push (seqObj "list" #[] 0)).get? b = some o := fun b o e => by
    have hlt : b < s.heap.objs.size := Heap.lt_size e
    refine Heap.get?_push_of_some _ (Heap.get?_push_of_some _ ?_)
    have ne : b ≠ D := fun z => Nat.lt_irrefl _ (Nat.lt_of_lt_of_le (z ▸ hlt) hD)
    exact (s1.2 b ne).trans (keep b o e)
  have gD : (((hp0.update D (Obj.mapSeq fun _ => (#[] : Array Value))).push (seqObj "tuple" vs.toArray 0)).push (seqObj "list" #[] 0)).get? D = some (seqObj "list" #[] e1) := Heap.get?_push_of_some _ (Heap.get?_push_of_some _ ho1)
  have gS : (((hp0.update D (Obj.mapSeq fun _ => (#[] : Array Value))).push (seqObj "tuple" vs.toArray 0)).push (seqObj "list" #[] 0)).get? (s.heap.objs.size + 3) = some (seqObj "list" #[] 0) := by
    rw [← hk2]
    exact Heap.get?_push_size _ rfl
  rw [hk2]
  have nDS : D ≠ s.heap.objs.size + 3 := by rw [← eD]; exact Nat.ne_of_lt (Nat.lt_of_lt_of_le (Nat.lt_succ_self _) (Nat.le_succ _))
  have hS : s.heap.objs.size ≤ s.heap.objs.size + 3 := Nat.le_add_right _ _
  generalize eS : s.heap.objs.size + 3 = kS at gS nDS hS
  generalize hB : ((hp0.update D (Obj.mapSeq fun _ => (#[] : Array Value))).push (seqObj "tuple" vs.toArray 0)).push (seqObj "list" #[] 0) = hp1 at keepB gD gS
  have I0 : Inv X pins σ H1 { s with heap := hp1 } := Iv.kept (t' := s.toks) keepB
  have fD : FpOk X pins H1 D := Iv.fpOk hD (Iv.hok.fresh hD)
  have fS : FpOk X pins H1 kS := Iv.fpOk hS (Iv.hok.fresh hS)
  have nqD : q ≠ D := fun z => Nat.lt_irrefl _ (Nat.lt_of_lt_of_le (z ▸ hqs) hD)
  have nqS : q ≠ kS := fun z => Nat.lt_irrefl _ (Nat.lt_of_lt_of_le (z ▸ hqs) hS)
  have szD : X.s_0.heap.objs.size ≤ D := Nat.le_trans Iv.sz hD
  have hq0 := keepB q _ hq
  unfold ksk_rest
  refine wpAny_bind (wpAny_rule ?_)
  rw [List.forIn_toArray]
  refine wpAny_bind (ksk_fold (fun i s' => ∃ (H' : Hp) (kA : Array Value) (e : Nat) (ks : List V), Inv X pins σ H' s' ∧ ExtN H1 H' ∧ Tabs T H' ∧ s'.heap.get? q = some lamO ∧ H' q = none ∧ s'.heap.get? D = some (seqObj "list" #[] e1) ∧ H' D = none ∧ s'.heap.get? kS = some (seqObj "list" kA e) ∧ H' kS = none ∧
      Vals ks kA.toList ∧ Paired (KO.KV H') ks ((List.range i).map kf)) vs 0 _ ?start ?step ?done)
  case start => exact ⟨H1, #[], 0, [], I0, ExtN.refl _, tb, hq0, fq.1, gD, fD.1, gS, fS.1, .nil, .nil⟩
  case step =>
    rintro j u s' hu ⟨H', kA, e, ks, I', eN, tb', hq', nq', hD', nD', hS', nS', rk, pk⟩
    simp only [Nat.zero_add] at pk ⊢
    have hj : j < vs.length := (List.getElem?_eq_some_iff.mp hu).1
    have hxj : xs[j]? = some xs[j] := List.getElem?_eq_getElem (by omega)
    obtain ⟨u', hu', ru⟩ := rv.get hxj
    rw [hu] at hu'
    cases hu'
    have hkl : ks.length = kA.size := by rw [← Array.length_toList]; exact rk.length
    have hpl : ks.length = j := by have q := Paired.length pk; rw [List.length_map, List.length_range] at q; exact q
    have hjz : j < sizeLine := Nat.lt_of_lt_of_le hj hzv
    rw [hpl] at hkl
    have I1' : Inv X (pins ++ pinsAt [q, D, kS] s'.heap) σ H' s' := I'.pinned (fun b hb => by
        rcases List.mem_cons.mp hb with rfl | hb
        · exact fp_at fq nq'
        · rcases List.mem_cons.mp hb with rfl | hb
          · exact fp_at fD nD'
          · rw [List.mem_singleton.mp hb]; exact fp_at fS nS') fun b hb => by
        rcases List.mem_cons.mp hb with rfl | hb
        · exact ⟨_, hq', hl⟩
        · rcases List.mem_cons.mp hb with rfl | hb
          · exact ⟨_, hD', fun v z => by cases z⟩
          · rw [List.mem_singleton.mp hb]; exact ⟨_, hS', fun v z => by cases z⟩
    refine wpAny_bind (wpAny_attempt (wpAny_mono (turn j _ u H' s' _ (fun _ _ => False) hxj ru I1' eN tb' hq') (fun kn s2 he => ?_) fun _ _ hF => hF.elim))
    obtain ⟨k2, H2, I2', rk2, e2, tb2, kk2⟩ := he
    have at_ : ∀ b o, b ∈ [q, D, kS] → s'.heap.get? b = some o → s2.heap.get? b = some o ∧ H2 b = none := fun b o hb e => by
      have := I2'.pin (b, o) (List.mem_append_right _ (List.mem_append_right _ (mem_pinsAt hb e)))
      exact ⟨this.1, this.2.1⟩
    have I2 := I2'.unpinned
    obtain ⟨hq2, nq2⟩ := at_ q _ (by simp) hq'
    obtain ⟨hD2, nD2⟩ := at_ D _ (by simp) hD'
    obtain ⟨hS2, nS2⟩ := at_ kS _ (by simp) hS'
    try dsimp only
    have s3 := Heap.SameBut.update s2.heap kS (Obj.mapSeq (·.push kn))
    obtain ⟨c2, hc2⟩ : ∃ c2, (s2.heap.update kS (Obj.mapSeq (·.push kn))).get? kS = some (seqObj "list" (kA.push kn) c2) := ⟨_, get?_update_seq hS2 (·.push kn)⟩
    refine wpAny_bind (listUpdate_at hS2 rfl ?_ (by rw [← hkl]; exact Nat.le_of_lt hjz) (Nat.le_trans (Nat.le_of_eq (Array.size_push ..)) (by rw [← hkl]; exact Nat.succ_le_succ (Nat.le_of_lt hjz))))
    obtain ⟨g0, g1, g2, g3, g4, g5⟩ := id fS
    have I3 : Inv X pins σ H2 { s2 with heap := s2.heap.update kS (Obj.mapSeq (·.push kn)) } := I2.turned (t' := s2.toks) (fun b o hb e => (s3.2 b hb).trans e) nS2 g1 g3 g4 g5
    refine wpAny_pure ⟨rfl, H2, kA.push kn, c2, ks ++ [k2], I3, eN.trans e2, tb2, (s3.2 q nqS).trans hq2, nq2, (s3.2 D nDS).trans hD2, nD2, hc2, nS2, ?_, ?_⟩
    · rw [Array.toList_push]
      exact rk.append (.cons rk2 .nil)
    · rw [List.range_succ, List.map_append]
      exact paired_snoc kk2 (Paired.mapP pk fun a b h => KO.mono e2 h)
  case done =>
    rintro s' ⟨H', kA, e, ks, I', eN, tb', hq', nq', hD', nD', hS', nS', rk, pk⟩
    simp only [Nat.zero_add] at pk
    have hkl : kA.size = vs.length := by
      have q := Paired.length pk
      have q2 : ks.length = kA.toList.length := rk.length
      rw [List.length_map, List.length_range] at q
      rw [← Array.length_toList, ← q2, q]
    have hkl2 : kA.toList.length = vs.length := by rw [Array.length_toList]; exact hkl
    try dsimp only
    refine wpAny_bind (listItems_at hS' rfl ?_)
    refine sort_end KS hun hzv rv I' szD (fp_at fD nD') (fp_at fS nS') nDS hD' hS' hkl rk pk fun s'' I'' => ⟨_, rfl, ?_⟩
    exact wpAny_pure ⟨_, rfl, .ref D, _, I'', rfl, hQ H' D eN tb' nD'⟩
end
end Fx

set_option Elab.async false
set_option linter.all false
set_option maxRecDepth 100000
set_option maxHeartbeats 4000000
/-! sorted, min by a lambda: the rules and what they make of data. -/
namespace Fx
open PySem PySem.Spec PyProof.Rows L2 LamX
section
variable {X : Cx} {T : List (Addr × Str)} {κ : Type}
/-- sorted(e, key=lambda p: body), the name p in slot j -/
def tSortK (K : PySem.W.Frag) (T : List (Addr × Str)) (KO : KeyOrd K κ) (j : Nat) (te tb : TE) : TE := fun σ H Q => te σ H fun x H1 => KeyPost K T KO j tb σ (fun xs kf H2 => ∀ H' p, ExtN H2 H' → Tabs T H' → H' p = none → Q (.ref p) (upd H' p (.lst (sortedBy KO.lt kf xs)))) [x] H1
theorem pe_sortK {e body : Expr} {te tb : TE} {params : Arguments} {scope : Scope} {p : Str} {j k : Nat} {c P : Addr} {fp lpos kpos pos : Pos} (KO : KeyOrd X.K κ) (KS : KeySort KO) (hc : X.calm = true) (hg : Gl X "sorted") (hm : X.mg "sorted" = none) (he : PE X e te)
    (TB : TabB X.base X.mg c P) (hcode : X.env.code = .ref c) (hmT : (P, X.env.qual ++ "<lambda>") ∈ T) (hu : ∀ p ∈ T, p.1 = P → p.2 = X.env.qual ++ "<lambda>") (hr : Room (k + 3) X.A) (L : LamS1 X.env.scope scope p) (hN : X.N.Nodup) (hj : X.N[j]? = some p)
    (hdef : defaultsOf params X.env = ([], []))
    (hbind : ∀ (q : Str) (cl : List (Str × Addr)) (pm cv ctv v : Value), bindArgs (PySem.W.kla_fn "<lambda>" q params body scope cl pm cv ctv) ⟨[v], []⟩ = pure [(p, v)])
    (hbody : ∀ (s : Shared) (H : Hp) (f c' : Addr), Room k (X.A.in1.in1.deeper (lamEnv X scope s.heap.objs.size f c')) → PE (lamCx1 X X.A.in1.in1 s H scope f c') body tb)
    (hs0 : starEach [e] X.env = (false, eval e X.env) :: starEach [] X.env := by rfl) (hs : backTo pos (starEach [e] X.env) = (false, eval e X.env) :: backTo pos (starEach [] X.env) := by rfl) (hpl : (backTo pos (starEach [e] X.env)).any (·.1) = false := by rfl)
    (hall : (backToKw pos (keywordEach [⟨some "key", .Lambda params body scope lpos, kpos⟩] X.env)).all (·.1.isSome) = true := by rfl) (hnone : (backToKw pos (keywordEach [⟨some "key", .Lambda params body scope lpos, kpos⟩] X.env)).any (·.1.isNone) = false := by rfl)
    (hks : (backToKw pos (keywordEach [⟨some "key", .Lambda params body scope lpos, kpos⟩] X.env)).filterMap (·.1) = [Str.ofString "key"] := by rfl) :
    PE X (.Call (.Name "sorted" fp) [e] [⟨some "key", .Lambda params body scope lpos, kpos⟩] pos) (tSortK X.K T KO j te tb) := by
  refine ⟨fun pins s σ H Q I h => ?_⟩
  refine wpAny_Call_Name_kw (ld_blt I hg hm (u := .builtin "sorted") (by decide +kernel) ?_ (by decide) (by decide))
  refine PyProof.Rows.callWith_kw (thn ((pa_cons he pa_nil hs0).run pos pins s σ H (fun vs H1 => KeyPost X.K T KO j tb σ (fun xs kf H2 => ∀ H' p, ExtN H2 H' → Tabs T H' → H' p = none → Q (.ref p) (upd H' p (.lst (sortedBy KO.lt kf xs)))) vs H1) I h) fun us s1 ⟨vs, H1, I1, r1, q1⟩ => ?_) hs hpl hall hnone
  rw [hks]
  obtain ⟨x, rfl, hT, q1⟩ := q1
  show wpAny _ _ (evalAll [do let v ← eval (.Lambda params body scope lpos) X.env; standAt _; pure v]) _ _ _
  refine wpAny_evalAll_cons (wpAny_bind (lam_new I1 TB hcode hmT hu hT hdef (L.has I1.ok) fun f c' pm ctv H2 s2 m => wpAny_bind (wpAny_standAt (wpAny_pure ?_))))
  refine wpAny_evalAll_nil ?_
  obtain ⟨a, xs, kf, rfl, hx, ht, hq⟩ := q1 H2 m.ext m.tabs
  obtain rfl := Vals.ref1 r1
  have r1' := hr.in1.in1
  refine sorted_call KO KS (m.inv.ok.hd hc) (by have := r1'.un; omega) (fun i y v H' s' pins' E hxi ry I' e' t' hq' => ?_) hx (fun v z => by cases z) m.inv m.tabs m.fp m.obj hq
  exact lam_call1 I' L hN hj ry I'.ok.frames r1' hq' (e' _ _ m.code codeO_ne) (hbind _ _ _ _ _ _) (fun s H hr => hbody s H f c' hr) (ht i y H' hxi e' t')
end
section
variable {T : List (Addr × Str)} {W : Wld T} {G H G1 H1 G2 H2 H0 : Hp} {G0 : Hp × Hp} {c c' k : Nat} {K : PySem.W.Frag} {κ : Type}
/-- how keys stand in data -/
structure KeyD (KO : KeyOrd K κ) (emb : κ → D) : Prop where
  kv : ∀ {T : List (Addr × Str)} {G H : Hp} {v : V} {a : κ}, GOk (W0 T) G H → Rp G v (emb a) → KO.KV H v a
theorem keyD_int : KeyD (keyInt K) .int := ⟨fun g r => by cases r; rfl⟩
theorem keyD_tup : KeyD (keyTup K) dI := ⟨fun g r => by
  cases r with
  | tup h r =>
    rw [RpL.ints r] at h
    exact ⟨_, rfl, (g _ _ h).1⟩⟩
def eraseM : Env' → Env'
  | [] => []
  | .dat d :: r => .dat d :: eraseM r
  | _ :: r => .emp :: eraseM r
theorem eraseM_len : ∀ e : Env', (eraseM e).length = e.length
  | [] => rfl
  | .mu _ :: r => congrArg (· + 1) (eraseM_len r)
  | .md _ :: r => congrArg (· + 1) (eraseM_len r)
  | .emp :: r => congrArg (· + 1) (eraseM_len r)
  | .dat _ :: r => congrArg (· + 1) (eraseM_len r)
theorem eraseM_dat : ∀ {e : Env'} {i : Nat} {d : D}, (eraseM e)[i]? = some (.dat d) → e[i]? = some (.dat d)
  | [], _, _, h => h
  | .mu _ :: r, 0, _, h => by simp [eraseM] at h
  | .md _ :: r, 0, _, h => by simp [eraseM] at h
  | .emp :: r, 0, _, h => by simp [eraseM] at h
  | .dat _ :: r, 0, _, h => h
  | .mu _ :: r, i + 1, _, h => eraseM_dat (e := r) (i := i) h
  | .md _ :: r, i + 1, _, h => eraseM_dat (e := r) (i := i) h
  | .emp :: r, i + 1, _, h => eraseM_dat (e := r) (i := i) h
  | .dat _ :: r, i + 1, _, h => eraseM_dat (e := r) (i := i) h
theorem eraseM_mu : ∀ {e : Env'} {i : Nat} {s : Slot}, (eraseM e)[i]? = some s → s.isM = false
  | [], _, _, h => by cases h
  | .mu _ :: r, 0, _, h => by simp [eraseM] at h; rw [← h]; rfl
  | .md _ :: r, 0, _, h => by simp [eraseM] at h; rw [← h]; rfl
  | .emp :: r, 0, _, h => by simp [eraseM] at h; rw [← h]; rfl
  | .dat _ :: r, 0, _, h => by simp [eraseM] at h; rw [← h]; rfl
  | .mu _ :: r, i + 1, _, h => eraseM_mu (e := r) (i := i) h
  | .md _ :: r, i + 1, _, h => eraseM_mu (e := r) (i := i) h
  | .emp :: r, i + 1, _, h => eraseM_mu (e := r) (i := i) h
  | .dat _ :: r, i + 1, _, h => eraseM_mu (e := r) (i := i) h
theorem stp_extN (g : GOk W G H) (e : LamX.ExtN H H1) : Stp W G H G H1 := ⟨fun _ _ h => h, fun a o h _ n => e a o h n, fun _ h => .inl h, fun a h o e1 n => h o (e a o e1 n) n⟩
theorem gok_extN (g : GOk W G H) (e : LamX.ExtN H H1) : GOk W G H1 := fun a o h => let ⟨h1, h2, h3⟩ := g a o h; ⟨e a o h1 h2, h2, h3⟩
theorem J_extN (j : W.J c H) (e : LamX.ExtN H H1) (t : LamX.Tabs T H1) : W.J c H1 := W.pure j (fun a o h n => e a o h n) t
theorem extN_stp (s : Stp (W0 T) G H G1 H1) : LamX.ExtN H H1 := fun a o h n => s.hh a o h (fun z => z) n
theorem At.lam {σ : L2.St} {env : Env'} (A : At W G0 H0 c G H σ env) (e : LamX.ExtN H H1) (t : LamX.Tabs T H1) : At (W0 T) (G, G) H1 0 G H1 σ (eraseM env) :=
  ⟨Stp.refl, fun _ _ h => h, (gok_extN A.gok e).drop, t, ⟨by rw [eraseM_len]; exact A.env.len, fun i d h => A.env.dat i d (eraseM_dat h), fun i s h hs => (by rw [eraseM_mu h] at hs; cases hs), fun i j s t l _ h _ hs => (by rw [eraseM_mu h] at hs; cases hs)⟩⟩
theorem key_turn {KO : KeyOrd K κ} {emb : κ → D} (KD : KeyD KO emb) {tb : TE} {env : Env'} {σ : L2.St} {j : Nat} {d : D} {a : κ} {y : V} (A : At W G0 H0 c G H σ env) (e : LamX.ExtN H H1) (t : LamX.Tabs T H1) (r : Rp G y d) (hb : ED (W0 T) tb ((eraseM env).set j (.dat d)) (emb a)) :
    tb (σ.set j (some y)) H1 fun k H'' => LamX.ExtN H1 H'' ∧ LamX.Tabs T H'' ∧ KO.KV H'' k a :=
  hb 0 _ _ _ _ _ ((A.lam e t).setD j r) _ fun v G2 H2 s g j2 r2 => ⟨extN_stp s, j2, KD.kv g r2⟩
/-- min(l, key=..): the first one with a least key -/
theorem ed_minK {KO : KeyOrd K κ} {emb : κ → D} (KD : KeyD KO emb) {te tb : TE} {env : Env'} {j i0 : Nat} {ds : List D} {d0 : D} {kf : Nat → κ} (h : ED W te env (.lst ds)) (hb : ∀ (i : Nat) (d : D), ds[i]? = some d → ED (W0 T) tb ((eraseM env).set j (.dat d)) (emb (kf i))) (hi : ds[i0]? = some d0) (hm : IsMin KO.lt kf ds.length i0) :
    ED W (tMinK K T KO j te tb) env d0 := fun c G0 H0 σ G H A Q q =>
  h c G0 H0 σ G H A _ fun v G1 H1 s1 g1 j1 r1 => by
    have A1 := A.step s1 g1 j1
    cases r1 with
    | lst ha rl =>
    rename_i a xs
    have hlen := rl.len
    refine ⟨_, rfl, W.tabs j1, fun H2 e2 t2 => ⟨a, xs, kf, rfl, sqL_of (gok_extN g1 e2) ha, fun i y H' hy e' t' => ?_, ?_, fun i y H' hy hm' e' t' => ?_⟩⟩
    · obtain ⟨d, hd, rd⟩ := rl.getV hy
      exact key_turn KD A1 (e2.trans e') t' rd (hb i d hd)
    · rw [hlen]
      exact Nat.lt_of_le_of_lt (Nat.zero_le _) (List.getElem?_eq_some_iff.mp hi).1
    · rw [hlen] at hm'
      have hil : i < ds.length := by rw [← hlen]; exact (List.getElem?_eq_some_iff.mp hy).1
      have hi0l := (List.getElem?_eq_some_iff.mp hi).1
      have e0 : i = i0 := by
        rcases Nat.lt_trichotomy i i0 with z | z | z
        · have z1 := (hm i hil).2 z
          rw [(hm' i0 hi0l).1] at z1
          cases z1
        · exact z
        · have z1 := (hm' i0 hi0l).2 z
          rw [(hm i hil).1] at z1
          cases z1
      subst e0
      obtain ⟨d, hd, rd⟩ := rl.getV hy
      rw [hi] at hd
      cases hd
      have e3 := e2.trans e'
      exact q y G1 H' (s1.trans (stp_extN g1 e3)) (gok_extN g1 e3) (J_extN j1 e3 t') rd
/-- the items by their keys -/
def sortD (lt : κ → κ → Bool) (kf : Nat → κ) (ds : List D) : List D := (isort (fun i j => lt (kf i) (kf j)) (List.range ds.length)).map fun i => ds.getD i .non
theorem rp_pick {xs : List V} {ds : List D} (r : RpL G xs ds) : ∀ {l : List Nat}, (∀ i ∈ l, i < ds.length) → RpL G (l.map fun i => xs.getD i .non) (l.map fun i => ds.getD i .non)
  | [], _ => .nil
  | i :: l, h => by
    have hi := h i List.mem_cons_self
    obtain ⟨v, hv, rv⟩ := r.get (List.getElem?_eq_getElem hi)
    refine .cons ?_ (rp_pick r fun j hj => h j (List.mem_cons_of_mem _ hj))
    have e1 : ds.getD i .non = ds[i] := by simp [List.getD_eq_getElem?_getD, hi]
    have e2 : xs.getD i .non = v := by simp [List.getD_eq_getElem?_getD, hv]
    show Rp G (xs.getD i .non) (ds.getD i .non)
    rw [e1, e2]
    exact rv
theorem ed_sortK {KO : KeyOrd K κ} {emb : κ → D} (KD : KeyD KO emb) {te tb : TE} {env : Env'} {j : Nat} {ds : List D} {kf : Nat → κ} (h : ED W te env (.lst ds)) (hb : ∀ (i : Nat) (d : D), ds[i]? = some d → ED (W0 T) tb ((eraseM env).set j (.dat d)) (emb (kf i))) :
    ED W (tSortK K T KO j te tb) env (.lst (sortD KO.lt kf ds)) := fun c G0 H0 σ G H A Q q =>
  h c G0 H0 σ G H A _ fun v G1 H1 s1 g1 j1 r1 => by
    have A1 := A.step s1 g1 j1
    cases r1 with
    | lst ha rl =>
    rename_i a xs
    have hlen := rl.len
    refine ⟨_, rfl, W.tabs j1, fun H2 e2 t2 => ⟨a, xs, kf, rfl, sqL_of (gok_extN g1 e2) ha, fun i y H' hy e' t' => ?_, fun H' p e' t' hp => ?_⟩⟩
    · obtain ⟨d, hd, rd⟩ := rl.getV hy
      exact key_turn KD A1 (e2.trans e') t' rd (hb i d hd)
    · have e3 := e2.trans e'
      have g3 := gok_extN g1 e3
      have j3 := J_extN j1 e3 t'
      have s3 := s1.trans (stp_extN g1 e3)
      have rr : RpL G1 (sortedBy KO.lt kf xs) (sortD KO.lt kf ds) := by
        unfold sortedBy sortD
        rw [hlen]
        exact rp_pick rl fun i hi => List.mem_range.mp ((isort_perm _ _).mem_iff.mp hi)
      exact q _ _ _ (s3.trans (stp_new g3 hp)) (gok_new g3 j3 hp (noTb_lst _)) (J_new j3 hp) (.lst upd_same (rr.mono (same_new (g3.none hp) _)))
/-- in plain words -/
theorem sortD_map {α : Type} {lt : κ → κ → Bool} {kf : Nat → κ} (key : α → κ) (emb : α → D) (xs : List α) (hk : ∀ (i : Nat) (x : α), xs[i]? = some x → kf i = key x) : sortD lt kf (xs.map emb) = (isort (fun x y => lt (key x) (key y)) xs).map emb := by
  cases xs with
  | nil => rfl
  | cons x0 r =>
    have e0 : ∀ l : List α, l = (List.range l.length).map fun i => l.getD i x0 := fun l => by
      apply List.ext_getElem?
      intro i
      rw [List.getElem?_map]
      by_cases hi : i < l.length
      · rw [List.getElem?_range hi, List.getElem?_eq_getElem hi]
        simp [List.getD_eq_getElem?_getD, hi]
      · rw [List.getElem?_eq_none (by omega), List.getElem?_eq_none (by simp; omega)]
        rfl
    have e1 : isort (fun x y => lt (key x) (key y)) (x0 :: r) = (isort (fun i j => lt (kf i) (kf j)) (List.range (x0 :: r).length)).map fun i => (x0 :: r).getD i x0 := by
      conv => lhs; rw [e0 (x0 :: r)]
      refine isort_map (lt' := fun i j => lt (kf i) (kf j)) (fun i => (x0 :: r).getD i x0) _ fun i hi j hj => ?_
      have hi' := List.mem_range.mp hi
      have hj' := List.mem_range.mp hj
      have gi : (x0 :: r)[i]? = some ((x0 :: r).getD i x0) := by rw [List.getD_eq_getElem?_getD, List.getElem?_eq_getElem hi']; rfl
      have gj : (x0 :: r)[j]? = some ((x0 :: r).getD j x0) := by rw [List.getD_eq_getElem?_getD, List.getElem?_eq_getElem hj']; rfl
      rw [hk i _ gi, hk j _ gj]
    rw [e1]
    unfold sortD
    rw [List.length_map, List.map_map]
    refine List.map_congr_left fun i hi => ?_
    have hi' := List.mem_range.mp ((isort_perm _ _).mem_iff.mp hi)
    show ((x0 :: r).map emb).getD i .non = emb ((x0 :: r).getD i x0)
    rw [List.getD_eq_getElem?_getD, List.getD_eq_getElem?_getD, List.getElem?_map, List.getElem?_eq_getElem hi']
    rfl
end
end Fx

set_option Elab.async false
set_option linter.all false
set_option maxRecDepth 100000
set_option maxHeartbeats 4000000
/-! Defs of the module: how they stand, what they promise. -/
namespace Fx
open PySem PySem.Spec PyProof.Rows L2 LamX C8
section
variable {P : Program} {w : World} {K : PySem.W.Frag} {mg : Str → Option Value} {base : Heap} {T : List (Addr × Str)} {W : Wld T}
/-- the def st stands under the name x; cdv: its code object -/
structure Df (K : PySem.W.Frag) (mg : Str → Option Value) (x : Str) (st : Stmt) (ps : List Str) (cdv : Value) : Prop where
  ex : ∃ (f : Addr) (oc : Value) (od : Option Addr) (kV doc pm : Value) (an : Option Addr) (ct : Value) (osl : Array (Option Value)),
    K.lookup f = some ⟨oc, od, .func (PySem.W.fnOf x x (fnArgs st) (fnBody st) (fnScope st) .none kV doc pm an cdv ct), osl⟩ ∧ PySem.W.codeIn K cdv x = true ∧ mg x = some (.ref f) ∧ PySem.W.keepIn K (.ref f) = true ∧
      Binds K (PySem.W.fnOf x x (fnArgs st) (fnBody st) (fnScope st) .none kV doc pm an cdv ct) ps []
theorem df_mk {h : Heap} {x : Str} {st : Stmt} {ps : List Str} {f : Addr} {oc : Value} {od : Option Addr} {kV doc pm : Value} {an : Option Addr} {cdv ct : Value} {osl : Array (Option Value)} (X : K.In h) (G : h.Ns mainGlobals mg)
    (a : PySem.W.nsIn K mainGlobals x = some (some (.ref f))) (l : K.lookup f = some ⟨oc, od, .func (PySem.W.fnOf x x (fnArgs st) (fnBody st) (fnScope st) .none kV doc pm an cdv ct), osl⟩) (c : PySem.W.codeIn K cdv x = true) (k : PySem.W.keepIn K (.ref f) = true)
    (hb : ∀ (us : List Value), us.length = ps.length → bindArgs (PySem.W.fnOf x x (fnArgs st) (fnBody st) (fnScope st) .none kV doc pm an cdv ct) ⟨us, []⟩ = pure (ps.zip us)) : Df K mg x st ps cdv :=
  ⟨f, oc, od, kV, doc, pm, an, ct, osl, l, c, PySem.W.mg_of X G a, k, .all hb⟩
theorem cal_of {x : Str} {st : Stmt} {N ps : List Str} {k : Nat} {sp : Sp} {cdv : Value} (F : Df K mg x st ps cdv) (S : scC N ps (fnScope st) = true) (len : ∀ vs H Q E, sp vs H Q E → vs.length = ps.length)
    (hbody : ∀ (f : Addr) (A : Around) (outer : List Env) (s : Shared) (H : Hp) (vs : List V) (Q : VK) (E : XK), Room k (A.deeper (envOfC x (fnScope st) s.heap.objs.size f cdv)) → sp vs H Q E →
      ∃ t, PSs (cxOf C8.CX0 P w K mg base N x (fnScope st) f cdv A outer s H E).nox (fnBody st) t ∧ t { nx := fun _ H' => Q .non H', rt := Q } (L2.start N vs) H) : Cal P w K mg base (k + 1) x sp [] := by
  obtain ⟨f, oc, od, kV, doc, pm, an, ct, osl, lk, hcd, hm, kp, hb⟩ := F.ex
  refine ⟨f, _, ps, [], fn_of lk hcd (fnScope_by S) len fun A outer s H vs Q E hr hsp => ?_, hm, kp, hb, .nil⟩
  obtain ⟨t, h, q⟩ := hbody f A outer s H vs Q E hr hsp
  exact ⟨t, h.nox, q⟩
/-- a def that makes data of data -/
theorem calD {x : Str} {st : Stmt} {N ps : List Str} {k : Nat} {cdv : Value} {f : List D → D → Prop} (F : Df K mg x st ps cdv) (S : scC N ps (fnScope st) = true) (len : ∀ ds d, f ds d → ds.length = ps.length)
    (hbody : ∀ (a : Addr) (A : Around) (outer : List Env) (s : Shared) (H : Hp) (E : XK), Room k (A.deeper (envOfC x (fnScope st) s.heap.objs.size a cdv)) →
      ∃ t, PSs (cxOf C8.CX0 P w K mg base N x (fnScope st) a cdv A outer s H E).nox (fnBody st) t ∧ ∀ ds d, f ds d → Tr (W0 T) t (env0 ds (N.length - ds.length)) 0 ⟨fun _ _ => d = .non, fun r _ => r = d, fun _ _ => False, fun _ _ => False, fun _ _ _ => False, fun _ _ _ => False⟩) : Cal P w K mg base (k + 1) x (SpD T f) [] := by
  have hn : ps.length ≤ N.length := by
    have := (fnScope_by S).pre
    rw [← this, List.length_take]
    omega
  refine cal_of F S (fun vs H Q E h => ?_) fun a A outer s H vs Q E hr h => ?_
  · obtain ⟨G, ds, d, _, _, r, hf, _⟩ := h
    rw [r.len, len ds d hf]
  · obtain ⟨t, ht, q⟩ := hbody a A outer s H E hr
    refine ⟨t, ht, body_D h ?_ q⟩
    obtain ⟨G, ds, d, _, _, r, hf, _⟩ := h
    rw [r.len, len ds d hf]
    exact hn
/-- a def that draws -/
theorem calS {x : Str} {st : Stmt} {N ps : List Str} {k m : Nat} {cdv : Value} {f : List D → (D → Prop) → Prop} (F : Df K mg x st ps cdv) (S : scC N ps (fnScope st) = true) (len : ∀ ds d, f ds d → ds.length = ps.length)
    (hbody : ∀ (a : Addr) (A : Around) (outer : List Env) (s : Shared) (H : Hp) (E : XK), Room k (A.deeper (envOfC x (fnScope st) s.heap.objs.size a cdv)) →
      ∃ t, PSs (cxOf C8.CX0 P w K mg base N x (fnScope st) a cdv A outer s H E).nox (fnBody st) t ∧ ∀ ds P c, f ds P → c + m ≤ CAP → Tr W t (env0 ds (N.length - ds.length)) c ⟨fun _ c2 => P .non ∧ c2 ≤ c + m, fun r c2 => P r ∧ c2 ≤ c + m, fun _ _ => False, fun _ _ => False, fun _ _ _ => False, fun _ _ _ => False⟩) : Cal P w K mg base (k + 1) x (SpS W m f) [] := by
  have hn : ps.length ≤ N.length := by
    have := (fnScope_by S).pre
    rw [← this, List.length_take]
    omega
  refine cal_of F S (fun vs H Q E h => ?_) fun a A outer s H vs Q E hr h => ?_
  · obtain ⟨G, c, ds, d, _, _, _, r, hf, _⟩ := h
    rw [r.len, len ds d hf]
  · obtain ⟨t, ht, q⟩ := hbody a A outer s H E hr
    refine ⟨t, ht, body_S h ?_ q⟩
    obtain ⟨G, c, ds, d, _, _, _, r, hf, _⟩ := h
    rw [r.len, len ds d hf]
    exact hn
end
theorem room65 {k : Nat} {A : Around} (r : Room k A) : A.units + 65 < cLine := by have := r.un; omega
section
variable {X : Cx}
theorem pe_cI {x : Str} {i : Int} {pos : Pos} (hg : Gl X x) (hm : ∃ t, X.mg x = some (.int i t)) (hd : (x == ("__debug__" : Str)) = false := by decide) : PE X (.Name x pos) (tC (.int i)) :=
  let ⟨t, h⟩ := hm; pe_glob hg h ⟨t, rfl⟩ hd
theorem pe_cS {x s : Str} {pos : Pos} (hg : Gl X x) (hm : ∃ t, X.mg x = some (.str s t)) (hd : (x == ("__debug__" : Str)) = false := by decide) : PE X (.Name x pos) (tC (.str s)) :=
  let ⟨t, h⟩ := hm; pe_glob hg h ⟨t, rfl⟩ hd
/-- a body's promise of nothing -/
theorem cal_none {P : Program} {w : World} {K : PySem.W.Frag} {mg : Str → Option Value} {base : Heap} {T : List (Addr × Str)} {x : Str} {st : Stmt} {ps : List Str} {k : Nat} {cdv : Value} {f : List D → D → Prop} (F : Df K mg x st ps cdv) (no : ∀ ds d, ¬ f ds d) : Cal P w K mg base k x (SpD T f) [] := by
  obtain ⟨f, oc, od, kV, doc, pm, an, ct, osl, lk, hcd, hm, kp, hb⟩ := F.ex
  exact ⟨f, _, ps, [], ⟨fun vs H Q E h => (by obtain ⟨G, ds, d, _, _, r, hf, _⟩ := h; exact absurd hf (no ds d)), fun A outer s H args us vs Q E _ _ _ _ h => (by obtain ⟨G, ds, d, _, _, r, hf, _⟩ := h; exact absurd hf (no ds d))⟩, hm, kp, hb, .nil⟩
end
end Fx

set_option Elab.async false
set_option linter.all false
set_option maxRecDepth 100000
set_option maxHeartbeats 4000000
/-! Comprehensions over a name or a pair, in short; the least and the greatest of ints; sorted ints. -/
namespace Fx
open PySem PySem.Spec PyProof.Rows L2
section
variable {T : List (Addr × Str)} {W : Wld T} {G H G1 H1 G2 H2 H0 : Hp} {G0 : Hp × Hp} {c c' k : Nat} {K : PySem.W.Frag}
theorem et_yes {env : Env'} : ET W tYes env true := fun c G0 H0 σ G H A Q q => q G H Stp.refl A.gok A.j
section
variable {α : Type} {wi : TI} {tt : TT} {te : TE} {env : Env'}
theorem set1 {env : Env'} {j : Nat} {s : Slot} : (wipeE env [j]).set j s = env.set j s := by
  show (env.set j .emp).set j s = _
  rw [List.set_set]
theorem set2 {env : Env'} {i j : Nat} {s t : Slot} (ne : i ≠ j) : ((wipeE env [i, j]).set i s).set j t = (env.set i s).set j t := by
  show (((env.set j .emp).set i .emp).set i s).set j t = _
  rw [List.set_set, List.set_comm _ _ ne.symm, List.set_set]
theorem ed_lc1 (xs : List α) (emb : α → D) (f : α → Bool) (g : α → D) {j : Nat} (hs : Src W wi env (xs.map emb)) (hz : xs.length ≤ 100000) (ht : ∀ x ∈ xs, ET W tt (env.set j (.dat (emb x))) (f x)) (he : ∀ x ∈ xs, f x = true → ED W te (env.set j (.dat (emb x))) (g x)) :
    ED W (tLc wi (gName j) tt te [j]) env (.lst ((xs.filter f).map g)) :=
  ed_lc xs emb (fun d => env.set j (.dat d)) f g hs hz (fun x _ => by have := tgc_name (W := W) (d := emb x) (env := wipeE env [j]) (j := j) (vs := [j]) List.mem_cons_self; rwa [set1] at this) ht he
theorem ed_map1 (xs : List α) (emb : α → D) (g : α → D) {j : Nat} (hs : Src W wi env (xs.map emb)) (hz : xs.length ≤ 100000) (he : ∀ x ∈ xs, ED W te (env.set j (.dat (emb x))) (g x)) :
    ED W (tLc wi (gName j) tYes te [j]) env (.lst (xs.map g)) :=
  (ed_lc1 xs emb (fun _ => true) g hs hz (fun _ _ => et_yes) fun x hx _ => he x hx).eq (by rw [List.filter_eq_self.mpr fun _ _ => rfl])
theorem ed_lc2 (xs : List α) (e1 e2 : α → D) (f : α → Bool) (g : α → D) {i j : Nat} (hs : Src W wi env (xs.map fun x => .tup [e1 x, e2 x])) (hz : xs.length ≤ 100000) (ne : i ≠ j) (ht : ∀ x ∈ xs, ET W tt ((env.set i (.dat (e1 x))).set j (.dat (e2 x))) (f x))
    (he : ∀ x ∈ xs, f x = true → ED W te ((env.set i (.dat (e1 x))).set j (.dat (e2 x))) (g x)) : ED W (tLc wi (gTup K 2 (gCons (gName i) (gCons (gName j) gNil))) tt te [i, j]) env (.lst ((xs.filter f).map g)) :=
  ed_lc xs (fun x => .tup [e1 x, e2 x]) (fun d => match d with | .tup [a, b] => (env.set i (.dat a)).set j (.dat b) | _ => env) f g hs hz
    (fun x _ => by
      have := tgc_tup2 (W := W) (K := K) (d1 := e1 x) (d2 := e2 x) (env := wipeE env [i, j]) (i := i) (j := j) (vs := [i, j]) List.mem_cons_self (List.mem_cons_of_mem _ List.mem_cons_self)
      rwa [set2 ne] at this) ht he
theorem ed_map2 (xs : List α) (e1 e2 : α → D) (g : α → D) {i j : Nat} (hs : Src W wi env (xs.map fun x => .tup [e1 x, e2 x])) (hz : xs.length ≤ 100000) (ne : i ≠ j) (he : ∀ x ∈ xs, ED W te ((env.set i (.dat (e1 x))).set j (.dat (e2 x))) (g x)) :
    ED W (tLc wi (gTup K 2 (gCons (gName i) (gCons (gName j) gNil))) tYes te [i, j]) env (.lst (xs.map g)) :=
  (ed_lc2 xs e1 e2 (fun _ => true) g hs hz ne (fun _ _ => et_yes) fun x hx _ => he x hx).eq (by rw [List.filter_eq_self.mpr fun _ _ => rfl])
end
theorem src_eq {wi : TI} {env : Env'} {l l' : List D} (h : Src W wi env l) (e : l = l') : Src W wi env l' := e ▸ h
/-- min, max of a list of ints -/
theorem rdl_minL {ns : List Int} {m : Int} (hm : m ∈ ns) (hle : ∀ y ∈ ns, m ≤ y) : RDL W (rMin K) [dLI ns] (.int m) := fun c G H vs g j r Q q => by
  cases r with
  | cons r1 r2 =>
  cases r2
  cases r1 with
  | lst h rl =>
  rw [RpL.ints rl] at h
  refine ⟨_, ns, rfl, sqL_of g h, List.length_pos_of_mem hm, fun m' hm' hle' => ?_⟩
  have e : m' = m := Int.le_antisymm (hle' m hm) (hle m' hm')
  rw [e]
  exact q.here g j (.int m)
theorem rdl_maxL {ns : List Int} {m : Int} (hm : m ∈ ns) (hle : ∀ y ∈ ns, y ≤ m) : RDL W (rMax K) [dLI ns] (.int m) := fun c G H vs g j r Q q => by
  cases r with
  | cons r1 r2 =>
  cases r2
  cases r1 with
  | lst h rl =>
  rw [RpL.ints rl] at h
  refine ⟨_, ns, rfl, sqL_of g h, List.length_pos_of_mem hm, fun m' hm' hle' => ?_⟩
  have e : m' = m := Int.le_antisymm (hle m' hm') (hle' m hm)
  rw [e]
  exact q.here g j (.int m)
/-- ints ascending -/
def isI (ns : List Int) : List Int := isort (fun a b => decide (a < b)) ns
theorem isI_perm (ns : List Int) : (isI ns).Perm ns := isort_perm _ _
theorem isI_asc (ns : List Int) : (isI ns).Pairwise (· ≤ ·) := by
  have h := isort_srtd swo_int ns
  refine List.Pairwise.imp ?_ h
  intro a b q
  have q : decide (b < a) = false := q
  simpa using q
theorem asc_uniq : ∀ {l m : List Int}, l.Pairwise (· ≤ ·) → m.Pairwise (· ≤ ·) → l.Perm m → l = m := by
  intro l m h1 h2 p
  exact p.eq_of_pairwise (fun a b _ _ h h' => Int.le_antisymm h h') h1 h2
theorem rdl_sortI {ns : List Int} : RDL W (rSortedI K) [dLI ns] (dLI (isI ns)) := fun c G H vs g j r Q q => by
  cases r with
  | cons r1 r2 =>
  cases r2
  cases r1 with
  | lst h rl =>
  rw [RpL.ints rl] at h
  refine ⟨_, ns, rfl, sqL_of g h, fun ns' p pm pw hp => ?_⟩
  have e : ns' = isI ns := asc_uniq pw (isI_asc ns) (pm.trans (isI_perm ns).symm)
  rw [e]
  exact q.newL g j hp (RpL.of_ints _)
/-- tuple(t) -/
theorem rdl_tupT {ds : List D} : RDL W (fun xs H Q => ∃ p ys, xs = [.ref p] ∧ ((SqL K H p ys ∧ ∀ l, H l = none → Q (.ref l) (upd H l (.tup ys))) ∨ (SqT K H p ys ∧ Q (.ref p) H))) [.tup ds] (.tup ds) := fun c G H vs g j r Q q => by
  cases r with
  | cons r1 r2 =>
  cases r2
  cases r1 with
  | tup h rl => exact ⟨_, _, rfl, .inr ⟨sqT_of g h, q.here g j (.tup h rl)⟩⟩
/-- x += e -/
theorem tr_aug1 {te : TE} {env : Env'} {po : Po} {i : Nat} {f : Int → Int → Int} {a b : Int} (he : env[i]? = some (.dat (.int a))) (h : ED W te env (.int b)) (k : po.nx (env.set i (.dat (.int (f a b)))) c) : Tr W (tAug i te (ipI f)) env c po := fun G0 H0 σ G H A E F => by
  obtain ⟨v, hv, r⟩ := A.env.dat _ _ he
  refine ⟨v, hv, h c G0 H0 σ G H A _ fun u G1 H1 s1 g1 j1 r1 => ?_⟩
  cases r
  cases r1
  exact ⟨a, b, rfl, rfl, F.nx _ _ _ _ _ ((A.step s1 g1 j1).setD i (.int _)) k⟩
end
end Fx

set_option Elab.async false
set_option linter.all false
set_option maxRecDepth 100000
set_option maxHeartbeats 4000000
/-! The hand layer's rules with the form's name K told, for blocks within blocks. -/
namespace Fx
open PySem PySem.Spec PyProof.Rows L2
section
variable {X : Cx} (K : PySem.W.Frag)
theorem kin (h : X.K = K := by rfl) : OpR X (compareOp .In) (rIn K false) := by subst h; exact op_in_seq
theorem knin (h : X.K = K := by rfl) : OpR X (compareOp .NotIn) (rIn K true) := by subst h; exact op_notIn_seq
theorem kcatA (h : X.K = K := by rfl) : OpR X (binaryOp .Add) (rCatA K) := by subst h; exact op_catA
theorem keq (hu : X.A.units + 64 < cLine) (h : X.K = K := by rfl) : OpR X (compareOp .Eq) (rEqD K) := by subst h; exact op_eqD hu
theorem kne (hu : X.A.units + 64 < cLine) (h : X.K = K := by rfl) : OpR X (compareOp .NotEq) (rNeD K) := by subst h; exact op_neD hu
theorem kinD (hu : X.A.units + 65 < cLine) (h : X.K = K := by rfl) : OpR X (compareOp .In) (rInD K) := by subst h; exact op_inD hu
theorem kix (h : X.K = K := by rfl) : IxR X (rIx K) := by subst h; exact ix_seq
theorem ksl (h : X.K = K := by rfl) : L2.SlR X (rSlL K) := by subst h; exact sl_list
theorem kslA (h : X.K = K := by rfl) : L2.SlR X (rSlA K) := by subst h; exact sl_tupA
theorem kany (hc : X.calm = true) (h : X.K = K := by rfl) : CallR X (.builtin "any") (rAny K) := by subst h; exact cr_any hc
theorem kall (hc : X.calm = true) (h : X.K = K := by rfl) : CallR X (.builtin "all") (rAll K) := by subst h; exact cr_all hc
theorem kmin (hc : X.calm = true) (h : X.K = K := by rfl) : CallR X (.builtin "min") (rMin K) := by subst h; exact cr_min hc
theorem kmax (hc : X.calm = true) (h : X.K = K := by rfl) : CallR X (.builtin "max") (rMax K) := by subst h; exact cr_max hc
theorem ksort (h : X.K = K := by rfl) : CallR X (.builtin "sorted") (rSortedI K) := by subst h; exact cr_sortedI
theorem klen (h : X.K = K := by rfl) : CallR X (.builtin "len") (fun xs H Q => ∃ p ys, xs = [.ref p] ∧ (SqL K H p ys ∨ SqT K H p ys) ∧ Q (.int ys.length) H) := by subst h; exact call_len_seq
theorem kisi (h : X.K = K := by rfl) : CallR X (.builtin "isinstance") (rIsi K) := by subst h; exact call_isi
theorem kisiT (h : X.K = K := by rfl) : CallR X (.builtin "isinstance") (rIsiT K) := by subst h; exact call_isiT
theorem klist (h : X.K = K := by rfl) : CallR X (.type "list") (fun xs H Q => ∃ p ys, xs = [.ref p] ∧ (SqL K H p ys ∨ SqT K H p ys) ∧ ∀ l, H l = none → Q (.ref l) (upd H l (.lst ys))) := by subst h; exact call_list_of
theorem ktuple (h : X.K = K := by rfl) : CallR X (.type "tuple") (fun xs H Q => ∃ p ys, xs = [.ref p] ∧ ((SqL K H p ys ∧ ∀ l, H l = none → Q (.ref l) (upd H l (.tup ys))) ∨ (SqT K H p ys ∧ Q (.ref p) H))) := by subst h; exact call_tuple_of
theorem kpi_list {tg l : Expr} {tl : TE} (hl : PE X l tl) (h : X.K = K := by rfl) : PI X tg l (iList K tl) := by subst h; exact pi_list hl
theorem kpi_tup {tg l : Expr} {tl : TE} (hl : PE X l tl) (h : X.K = K := by rfl) : PI X tg l (iTup K tl) := by subst h; exact pi_tup hl
theorem kpi_enum {e : Expr} {ta : TA} {p pos tpos : Pos} {elts : List Expr} {kk : Nat} (hg : Gl X "enumerate") (hm : X.mg "enumerate" = none) (ha : PA X [e] ta) (hs : starEach [e] X.env = [(false, eval e X.env)] := by rfl) (h : X.K = K := by rfl) :
    PI X (.Tuple elts kk tpos) (.Call (.Name "enumerate" p) [e] [] pos) (iEnum K ta) := by subst h; exact pi_enum hg hm ha hs
theorem kpi_zip {e e2 : Expr} {ta : TA} {p pos tpos : Pos} {elts : List Expr} {kk : Nat} (hg : Gl X "zip") (hm : X.mg "zip" = none) (ha : PA X [e, e2] ta)
    (hs : starEach [e, e2] X.env = (false, eval e X.env) :: starEach [e2] X.env := by rfl) (hpl : (backTo pos (starEach [e2] X.env)).any (·.1) = false := by rfl) (h : X.K = K := by rfl) :
    PI X (.Tuple elts kk tpos) (.Call (.Name "zip" p) [e, e2] [] pos) (RZ.iZipA K ta) := by subst h; exact RZ.pi_zipA hg hm ha hs hpl
theorem kstar {e : Expr} {es : List Expr} {p : Pos} {te : TE} {t : TA} (he : PE X e te) (hr : PA X es t) (hs : starEach (.Starred e p :: es) X.env = (true, eval e X.env) :: starEach es X.env := by rfl) (h : X.K = K := by rfl) : PA X (.Starred e p :: es) (StX.tStar K te t) := by subst h; exact StX.pa_star he hr hs
end
end Fx

set_option Elab.async false
set_option linter.all false
set_option maxRecDepth 100000
set_option maxHeartbeats 4000000
/-! Dicts as data: made by a comprehension, locked for good, read, walked. -/
namespace Fx
open PySem PySem.Spec PyProof.Rows L2
/-- what is made is locked for good -/
def tFrz (t : TE) : TE := fun σ H Q => t σ H fun v H' => ∃ d u, v = .ref d ∧ H' d = some u ∧ Mut (some u) ∧ ∀ od, Q v (upd H' d (.frz od u))
theorem pe_frz {X : Cx} {e : Expr} {t : TE} (h : PE X e t) : PE X e (tFrz t) := by
  refine ⟨fun pins s σ H Q I hw => ?_⟩
  refine thn (h.run pins s σ H _ I hw) fun v s1 ⟨x, H1, I1, r, d, u, ex, hd, mu, q⟩ => ?_
  subst ex
  obtain ⟨od, I2⟩ := I1.lock hd mu
  exact ⟨.ref d, _, I2, r, q od⟩
theorem klenD {X : Cx} : CallR X (.builtin "len") (fun xs H Q => ∃ a kvs, xs = [V.ref a] ∧ Rd H a (.dK kvs) ∧ Q (.int kvs.length) H) := by
  intro pins s σ H xs us Q I r h
  obtain ⟨a, kvs, rfl, ha, q⟩ := h
  obtain ⟨u, rfl, ru⟩ := vals1 r
  cases ru
  exact d_len I ha fun t s' I' => ⟨.int kvs.length, H, I', ⟨t, rfl⟩, q⟩
def kD : Key → D
  | .inl i => .int i
  | .inr s => .str s
theorem rp_key {G : Hp} : ∀ {k : Key}, Rp G (kV k) (kD k)
  | .inl i => .int i
  | .inr s => .str s
def lkD (kds : List (Key × D)) (k : Key) : Option D := (kds.find? fun kv => decide (kv.1 = k)).map (·.2)
theorem RpK.len {G : Hp} : ∀ {vs : List (Key × V)} {ds : List (Key × D)}, RpK G vs ds → vs.length = ds.length
  | _, _, .nil => rfl
  | _, _, .cons _ r => congrArg (· + 1) (RpK.len r)
theorem RpK.app {G : Hp} : ∀ {vs ws : List (Key × V)} {ds es : List (Key × D)}, RpK G vs ds → RpK G ws es → RpK G (vs ++ ws) (ds ++ es)
  | _, _, _, _, .nil, s => s
  | _, _, _, _, .cons h r, s => .cons h (RpK.app r s)
theorem RpK.lk {G : Hp} {k : Key} {d : D} : ∀ {vs : List (Key × V)} {ds : List (Key × D)}, RpK G vs ds → lkD ds k = some d → ∃ v, valV vs k = some v ∧ Rp G v d
  | _, _, .nil, e => by simp [lkD] at e
  | _, _, .cons (k := k') (v := v) (vs := vs) (d := d') (ds := ds) h r, e => by
    by_cases ek : k' = k
    · refine ⟨v, valV_pos ek, ?_⟩
      have : lkD ((k', d') :: ds) k = some d' := by simp [lkD, List.find?_cons, ek]
      rw [this] at e
      cases e
      exact h
    · have : lkD ((k', d') :: ds) k = lkD ds k := by simp [lkD, List.find?_cons, ek]
      rw [this] at e
      obtain ⟨w, h1, h2⟩ := RpK.lk r e
      exact ⟨w, by rw [valV_neg ek]; exact h1, h2⟩
theorem RpK.keys {G : Hp} : ∀ {vs : List (Key × V)} {ds : List (Key × D)}, RpK G vs ds → vs.map (·.1) = ds.map (·.1)
  | _, _, .nil => rfl
  | _, _, .cons _ r => by rw [List.map_cons, List.map_cons, RpK.keys r]
section
variable {T : List (Addr × Str)} {W : Wld T} {G H G1 H1 G2 H2 H0 : Hp} {G0 : Hp × Hp} {c c' k : Nat} {K : PySem.W.Frag}
theorem its_keys {d : Addr} {o : Obj} {kvs : List (Key × V)} {kds : List (Key × D)} (h : G d = some (.frz o (.dK kvs))) (r : RpK G kvs kds) : Its W (Itk d o kvs) G (kds.map fun p => kD p.1) := by
  have hl := r.len
  have hk := r.keys
  refine ⟨fun i G2 H2 g e _ hi => ⟨g.same _ _ (e _ _ h), by rw [hl]; simpa using hi⟩, fun i G2 H2 g e _ hi => ⟨g.same _ _ (e _ _ h), by rw [hl]; simpa using hi⟩, fun i d' c G2 H2 x H' g e j hd y => ?_⟩
  obtain ⟨rfl, k, v, hk1, rfl⟩ := y
  refine ⟨G2, Stp.refl, g, j, ?_⟩
  rw [List.getElem?_map] at hd
  have e1 : (kvs.map (·.1))[i]? = some k := by rw [List.getElem?_map, hk1]; rfl
  rw [hk, List.getElem?_map] at e1
  cases q : kds[i]? with
  | none => rw [q] at e1; cases e1
  | some p =>
    rw [q] at e1 hd
    cases e1
    cases hd
    exact rp_key
theorem src_keys {td : TE} {env : Env'} {kds : List (Key × D)} (h : ED W td env (.dic kds)) : Src W (iKeys td) env (kds.map fun p => kD p.1) := fun c G0 H0 σ G H A R q =>
  h c G0 H0 σ G H A _ fun v G1 H1 s1 g1 j1 r1 => by
    cases r1 with
    | dic h1 l1 => exact ⟨_, _, rfl, .inl ⟨_, g1.same _ _ h1, q _ _ _ s1 g1 j1 (its_keys h1 l1)⟩⟩
theorem ed_dget {td ty : TE} {env : Env'} {kds : List (Key × D)} {k : Key} {d : D} (h : ED W td env (.dic kds)) (hy : ED W ty env (kD k)) (e : lkD kds k = some d) : ED W (tDGet td ty) env d := fun c G0 H0 σ G H A Q q =>
  h c G0 H0 σ G H A _ fun v G1 H1 s1 g1 j1 r1 => hy c G0 H0 σ G1 H1 (A.step s1 g1 j1) _ fun v2 G2 H2 s2 g2 j2 r2 => by
    cases r1 with
    | dic h1 l1 =>
      obtain ⟨w, e1, e2⟩ := l1.lk e
      have ek : v2 = kV k := by
        cases k with
        | inl i => cases r2; rfl
        | inr i => cases r2; rfl
      exact ⟨_, _, rfl, .inl ⟨_, k, .inr ⟨_, g2.same _ _ (s2.gg _ _ h1)⟩, ek, e1.symm⟩, q _ G2 H2 (s1.trans s2) g2 j2 (e2.mono s2.gg)⟩
theorem rdl_lenD {kds : List (Key × D)} : RDL W (fun xs H Q => ∃ a kvs, xs = [V.ref a] ∧ Rd H a (.dK kvs) ∧ Q (.int kvs.length) H) [.dic kds] (.int kds.length) := fun c G H vs g j r Q q => by
  cases r with
  | cons r1 r2 =>
  cases r2
  cases r1 with
  | dic h1 l1 => exact ⟨_, _, rfl, .inr ⟨_, g.same _ _ h1⟩, q.here g j (by rw [l1.len]; exact .int _)⟩
/-- {k: v for x in xs}, the keys differ -/
theorem ed_dc {α : Type} (xs : List α) (emb : α → D) (envT : D → Env') (key : α → Key) (g : α → D) {wi : TI} {tg : TG} {tk te : TE} {vs : List Nat} {env : Env'} (hs : Src W wi env (xs.map emb)) (hz : xs.length ≤ 100000)
    (htg : ∀ x ∈ xs, TgC W tg vs (emb x) (wipeE env vs) (envT (emb x))) (hk : ∀ x ∈ xs, ED W tk (envT (emb x)) (kD (key x))) (he : ∀ x ∈ xs, ED W te (envT (emb x)) (g x)) (hn : (xs.map key).Nodup) :
    ED W (tFrz (tDc wi tg tYes tk te vs)) env (.dic (xs.map fun x => (key x, g x))) := by
  intro c G0 H0 σ G H A Q q
  refine hs c G0 H0 σ G H A _ fun J G1 H1 s1 g1 j1 its => ?_
  intro Dl hD
  have gD : G1 Dl = none := g1.none hD
  have mD : ¬ W.M Dl := fun m => W.mtr j1 m (nf_none hD)
  have nD := nf_none hD
  refine ⟨fun i m H' => m = xs.length - i ∧ i ≤ xs.length ∧ ∃ (G' : Hp) (acc : List (Key × V)), Stp W G1 H1 G' H' ∧ GOk W G' H' ∧ W.J c H' ∧ H' Dl = some (.dK acc) ∧ G' Dl = none ∧ RpK G' acc ((xs.take i).map fun x => (key x, g x)),
    ⟨xs.length, by simp, Nat.zero_le _, G1, [], stp_upd Stp.refl nD (noTb_dK _), gok_upd g1 gD, J_new j1 hD, upd_same, gD, .nil⟩, ?_⟩
  rintro i m H' ⟨rfl, hi, G', acc, s', g', j', hDl, gDl, rA⟩
  by_cases hlt : i < xs.length
  · refine .inr ⟨its.go i G' H' g' s'.gg ⟨_, j'⟩ (by simpa using hlt), fun H'' => i + 1 ≤ xs.length ∧ ∃ (G' : Hp) (acc : List (Key × V)), Stp W G1 H1 G' H'' ∧ GOk W G' H'' ∧ W.J c H'' ∧ H'' Dl = some (.dK acc) ∧ G' Dl = none ∧ RpK G' acc ((xs.take (i + 1)).map fun x => (key x, g x)),
      fun H'' h => ⟨xs.length - (i + 1), by omega, rfl, h⟩, fun x H2 hy => ?_⟩
    have hx : (xs.map emb)[i]? = some (emb xs[i]) := by rw [List.getElem?_map, List.getElem?_eq_getElem hlt]; rfl
    obtain ⟨G2, s2, g2, j2, r2⟩ := its.yld i _ _ G' H' x H2 g' s'.gg j' hx hy
    have hmem : xs[i] ∈ xs := List.getElem_mem hlt
    have A2 := ((A.step s1 g1 j1).step (s'.trans s2) g2 j2).wipe vs
    refine htg _ hmem _ _ _ _ _ _ x A2 r2 _ fun σ3 w3 A3 => ⟨w3.trans wipe_wipe, ?_⟩
    refine et_yes _ _ _ _ _ _ A3 _ fun G3 H3 s3 g3 j3 => ?_
    refine (if_pos rfl).mpr ?_
    refine hk _ hmem _ _ _ _ _ _ (A3.step s3 g3 j3) _ fun y G4 H4 s4 g4 j4 r4 => ?_
    refine he _ hmem _ _ _ _ _ _ ((A3.step s3 g3 j3).step s4 g4 j4) _ fun z G5 H5 s5 g5 j5 r5 => ?_
    have d2 := s2.hh Dl _ hDl mD (noTb_dK _)
    have d3 := s3.hh Dl _ d2 mD (noTb_dK _)
    have d4 := s4.hh Dl _ d3 mD (noTb_dK _)
    have d5 := s5.hh Dl _ d4 mD (noTb_dK _)
    have n2 := s2.gone gDl hDl (noTb_dK _)
    have n3 := s3.gone n2 d2 (noTb_dK _)
    have n4 := s4.gone n3 d3 (noTb_dK _)
    have n5 := s5.gone n4 d4 (noTb_dK _)
    have rA5 := (((rA.mono s2.gg).mono s3.gg).mono s4.gg).mono s5.gg
    have ek : y = kV (key xs[i]) := by
      cases h : key xs[i] with
      | inl i => rw [h] at r4; cases r4; rfl
      | inr i => rw [h] at r4; cases r4; rfl
    have hacc : acc.length = i := by rw [rA.len, List.length_map, List.length_take]; omega
    have hnew : valV acc (key xs[i]) = none := by
      cases hv : valV acc (key xs[i]) with
      | none => rfl
      | some w =>
        exfalso
        have hin : key xs[i] ∈ acc.map (·.1) := by
          unfold valV at hv
          cases hf : acc.find? fun kv => decide (kv.1 = key xs[i]) with
          | none => rw [hf] at hv; cases hv
          | some p =>
            have h1 := List.mem_of_find?_eq_some hf
            have h2 : p.1 = key xs[i] := by have := List.find?_some hf; simpa using this
            exact List.mem_map.mpr ⟨p, h1, h2⟩
        rw [rA.keys, List.map_map] at hin
        obtain ⟨z, hz1, hz2⟩ := List.mem_map.mp hin
        obtain ⟨jj, hj, ej⟩ := List.mem_iff_getElem.mp hz1
        rw [List.length_take] at hj
        rw [List.getElem_take] at ej
        have hz2 : key z = key xs[i] := hz2
        have hj' : jj < xs.length := by omega
        have e1 : (xs.map key)[jj]'(by simpa using hj') = (xs.map key)[i]'(by simpa using hlt) := by
          rw [List.getElem_map, List.getElem_map, ej, hz2]
        have := List.pairwise_iff_getElem.mp hn jj i (by simpa using hj') (by simpa using hlt) (by omega)
        exact this e1
    refine ⟨acc, key xs[i], ek, d5, Nat.lt_of_lt_of_le (Nat.lt_of_le_of_lt (by omega : acc.length ≤ 100000) (by decide : 100000 < 100001)) (by decide), hlt, G5, acc ++ [(key xs[i], z)], ?_, gok_upd g5 n5, ?_, ?_, n5, ?_⟩
    · exact stp_upd ((((s'.trans s2).trans s3).trans s4).trans s5) nD (noTb_dK _)
    · rw [putK_new _ hnew]
      exact W.upddk j5 mD d5
    · rw [putK_new _ hnew]; exact upd_same
    · rw [List.take_succ_eq_append_getElem hlt, List.map_append]
      exact rA5.app (.cons r5 .nil)
  · have e : i = xs.length := by omega
    subst e
    refine .inl ⟨its.stop _ G' H' g' s'.gg ⟨_, j'⟩ (by simp), Dl, _, rfl, hDl, True.intro, fun od => ?_⟩
    rw [List.take_length] at rA
    have hDn : Nf H Dl := s1.dom Dl nD
    exact q (.ref Dl) (upd G' Dl (.frz od (.dK acc))) (upd H' Dl (.frz od (.dK acc))) (stp_frz (stp_upd (s1.trans s') hDn (noTb_frz _ _)) hDn gDl) (gok_frz (gok_upd g' gDl) upd_same (noTb_frz _ _) mD) (W.upddk j' mD hDl) (.dic upd_same (rA.mono (same_new gDl _)))
end
end Fx

set_option Elab.async false
set_option linter.all false
set_option maxRecDepth 100000
set_option maxHeartbeats 4000000
/-! The law's script and its draws: worlds. -/
namespace Fx
open PySem PySem.Spec PyProof.Rows L2
section
variable {T : List (Addr × Str)} {G H G1 H1 G2 H2 H0 : Hp} {G0 : Hp × Hp} {c c' k : Nat} {K : PySem.W.Frag}
theorem sqL_at {H H' : Hp} {a : Addr} {xs : List V} (e : H' a = H a) (h : SqL K H a xs) : SqL K H' a xs := by
  unfold SqL Rd at h ⊢
  rw [e]
  exact h
/-- the script at a -/
def WS (T : List (Addr × Str)) (K : PySem.W.Frag) (a : Addr) (ns : List Int) (Pm : Prop) : Wld T where
  M := fun b => b = a ∧ Pm
  J := fun _ H => LamX.Tabs T H ∧ (Pm → ∃ o, H a = some o ∧ NoTb o ∧ SqL K H a (ns.map V.int)) ∧ (¬ Pm → ∀ H', SqL K H' a (ns.map V.int))
  tabs := fun h => h.1
  mono := fun _ h => h
  pure := fun ⟨t, h1, h2⟩ e t' => ⟨t', fun p => let ⟨o, ho, n, q⟩ := h1 p; ⟨o, e _ _ ho n, n, sqL_at (by rw [ho, e _ _ ho n]) q⟩, h2⟩
  mtr := fun ⟨t, h1, h2⟩ ⟨e, p⟩ nf => let ⟨o, ho, n, q⟩ := h1 p; nf_no ho n (e ▸ nf)
  updl := fun {c H l xs ys} ⟨t, h1, h2⟩ m hl => ⟨tabs_upd t hl, fun p => by
    obtain ⟨o, ho, n, q⟩ := h1 p
    have ne : a ≠ l := fun z => m ⟨z.symm, p⟩
    exact ⟨o, by rw [upd_ne ne]; exact ho, n, sqL_at (upd_ne ne) q⟩, h2⟩
  upddk := fun {c H l xs o'} ⟨t, h1, h2⟩ m hl => ⟨tabs_updd t hl, fun p => by
    obtain ⟨o, ho, n, q⟩ := h1 p
    have ne : a ≠ l := fun z => m ⟨z.symm, p⟩
    exact ⟨o, by rw [upd_ne ne]; exact ho, n, sqL_at (upd_ne ne) q⟩, h2⟩
theorem ws_sq {a : Addr} {ns : List Int} {Pm : Prop} (j : (WS T K a ns Pm).J c H) : SqL K H a (ns.map V.int) := by
  by_cases p : Pm
  · obtain ⟨o, _, _, q⟩ := j.2.1 p; exact q
  · exact j.2.2 p H
theorem ws_start {a : Addr} {ns : List Int} (t : LamX.Tabs T H) (h : SqL K H a (ns.map V.int)) : (WS T K a ns (Rd H a (.lst (ns.map V.int)))).J c H := by
  refine ⟨t, fun p => ?_, fun n H' => ?_⟩
  · rcases p with p | ⟨o, p⟩
    · exact ⟨_, p, noTb_lst _, h⟩
    · exact ⟨_, p, noTb_frz _ _, h⟩
  · rcases h with h | h
    · exact absurd h n
    · exact .inr h

/-- what the draws' dict holds -/
def stD (lw lc : Addr) (r t : Int) : List (Key × V) := [(.inr "wide", .ref lw), (.inr "cells", .ref lc), (.inr "rest", .int r), (.inr "turn", .int t)]
structure DrSt (MW : Addr → Prop) (S lw lc : Addr) (cells : List Int) (c : Nat) (H : Hp) (ws : List Int) (r t : Int) : Prop where
  s : H S = some (.dK (stD lw lc r t))
  w : H lw = some (.lst (ws.map V.int))
  l : H lc = some (.lst (cells.map V.int))
  w0 : ∀ x ∈ ws, 0 ≤ x
  r0 : 0 ≤ r
  t0 : 0 ≤ t
  tc : t ≤ c
  ne : lw ≠ lc
  mS : ¬ MW S
  mw : ¬ MW lw
def WDr (W : Wld T) (S lw lc : Addr) (cells : List Int) : Wld T where
  M := fun b => W.M b ∨ b = S ∨ b = lw ∨ b = lc
  J := fun c H => W.J c H ∧ ∃ ws r t, DrSt W.M S lw lc cells c H ws r t
  tabs := fun h => W.tabs h.1
  mono := fun hc ⟨h, ws, r, t, d⟩ => ⟨W.mono hc h, ws, r, t, { d with tc := Int.le_trans d.tc (by omega) }⟩
  pure := fun ⟨h, ws, r, t, d⟩ e tb => ⟨W.pure h e tb, ws, r, t, { d with s := e _ _ d.s (noTb_dK _), w := e _ _ d.w (noTb_lst _), l := e _ _ d.l (noTb_lst _) }⟩
  mtr := fun ⟨h, ws, r, t, d⟩ m nf => by
    rcases m with m | rfl | rfl | rfl
    · exact W.mtr h m nf
    · exact nf_no d.s (noTb_dK _) nf
    · exact nf_no d.w (noTb_lst _) nf
    · exact nf_no d.l (noTb_lst _) nf
  updl := fun {c H l xs ys} ⟨h, ws, r, t, d⟩ m hl => ⟨W.updl h (fun z => m (.inl z)) hl, ws, r, t, { d with
    s := by rw [upd_ne (fun z => m (.inr (.inl z.symm)))]; exact d.s
    w := by rw [upd_ne (fun z => m (.inr (.inr (.inl z.symm))))]; exact d.w
    l := by rw [upd_ne (fun z => m (.inr (.inr (.inr z.symm))))]; exact d.l }⟩
  upddk := fun {c H l xs ys} ⟨h, ws, r, t, d⟩ m hl => ⟨W.upddk h (fun z => m (.inl z)) hl, ws, r, t, { d with
    s := by rw [upd_ne (fun z => m (.inr (.inl z.symm)))]; exact d.s
    w := by rw [upd_ne (fun z => m (.inr (.inr (.inl z.symm))))]; exact d.w
    l := by rw [upd_ne (fun z => m (.inr (.inr (.inr z.symm))))]; exact d.l }⟩
/-- a thing of the world is changed -/
theorem stp_w {W : Wld T} {a : Addr} {o : HO} (m : W.M a) (n : NoTb o) : Stp W G H G (upd H a o) :=
  ⟨fun _ _ h => h, fun b u h nm _ => by rw [upd_ne (fun (z : b = a) => nm (by rw [z]; exact m))]; exact h, fun _ h => .inl h, fun b h => by
    by_cases e : b = a
    · exact absurd h (by rw [e]; exact nf_no upd_same n)
    · unfold Nf at h ⊢; rw [upd_ne e] at h; exact h⟩
theorem gok_w {W : Wld T} {a : Addr} {o : HO} (m : W.M a) (g : GOk W G H) : GOk W G (upd H a o) := fun b u h => by
  obtain ⟨h1, h2, h3⟩ := g b u h
  exact ⟨by rw [upd_ne (fun (z : b = a) => h3 (by rw [z]; exact m))]; exact h1, h2, h3⟩
section
variable {W : Wld T} {S lw lc : Addr} {cells : List Int} {env : Env'} {i : Nat} {po : Po}
theorem tr_ifN {tt : TT} {t u : TS} {n : Nat} {P : Bool → Prop} (h : ETN W tt env c n P) (h1 : P true → Tr W t env (c + n) po) (h2 : P false → Tr W u env (c + n) po) : Tr W (tIfS tt t u) env c po := fun G0 H0 σ G H A E F =>
  h G0 H0 σ G H A _ fun b G1 H1 s1 g1 j1 p => by
    cases b with
    | true => exact h1 p _ _ _ _ _ (A.step s1 g1 j1) E F
    | false => exact h2 p _ _ _ _ _ (A.step s1 g1 j1) E F
theorem DrSt.putR {MW : Addr → Prop} {ws : List Int} {r t r' : Int} (d : DrSt MW S lw lc cells c H ws r t) (h : 0 ≤ r') : DrSt MW S lw lc cells c (upd H S (.dK (putK (stD lw lc r t) (.inr "rest") (.int r')))) ws r' t :=
  { d with s := upd_same, w := by rw [upd_ne (ne_of d.w d.s (fun z => by cases z))]; exact d.w, l := by rw [upd_ne (ne_of d.l d.s (fun z => by cases z))]; exact d.l, r0 := h }
theorem DrSt.putT {MW : Addr → Prop} {ws : List Int} {r t t' : Int} (d : DrSt MW S lw lc cells c H ws r t) (h : 0 ≤ t') (h2 : t' ≤ c') : DrSt MW S lw lc cells c' (upd H S (.dK (putK (stD lw lc r t) (.inr "turn") (.int t')))) ws r t' :=
  { d with s := upd_same, w := by rw [upd_ne (ne_of d.w d.s (fun z => by cases z))]; exact d.w, l := by rw [upd_ne (ne_of d.l d.s (fun z => by cases z))]; exact d.l, t0 := h, tc := h2 }
theorem en_rest (h : env[i]? = some (.dat (.raw (.ref S)))) : EN (WDr W S lw lc cells) (tDGet (tVar i) (tC (.str "rest"))) env c 0 (fun d => ∃ r : Int, d = .int r ∧ 0 ≤ r) := fun G0 H0 σ G H A Q q => by
  obtain ⟨v, e, r1⟩ := A.env.dat i _ h
  cases r1
  obtain ⟨jw, ws, r, t, d⟩ := A.j
  exact ⟨_, e, S, .int r, rfl, DGet.k (k := .inr "rest") d.s, q (.int r) (.int r) G H Stp.refl A.gok A.j (.int r) ⟨r, rfl, d.r0⟩⟩
theorem en_turn (h : env[i]? = some (.dat (.raw (.ref S)))) : EN (WDr W S lw lc cells) (tDGet (tVar i) (tC (.str "turn"))) env c 0 (fun d => ∃ t : Int, d = .int t ∧ 0 ≤ t ∧ t ≤ c) := fun G0 H0 σ G H A Q q => by
  obtain ⟨v, e, r1⟩ := A.env.dat i _ h
  cases r1
  obtain ⟨jw, ws, r, t, d⟩ := A.j
  exact ⟨_, e, S, .int t, rfl, DGet.k (k := .inr "turn") d.s, q (.int t) (.int t) G H Stp.refl A.gok A.j (.int t) ⟨t, rfl, d.t0, d.tc⟩⟩
theorem len_putK (kvs : List (Key × V)) (h : kvs.length = 4) : kvs.length < sizeLine := by rw [h]; decide
theorem tr_putR {tv : TE} {n : Nat} (h : env[i]? = some (.dat (.raw (.ref S)))) (hv : EN (WDr W S lw lc cells) tv env c n (fun d => ∃ r : Int, d = .int r ∧ 0 ≤ r)) (k : po.nx env (c + n)) : Tr (WDr W S lw lc cells) (sDPut (tVar i) (tC (.str "rest")) tv) env c po := fun G0 H0 σ G H A E F =>
  hv G0 H0 σ G H A _ fun v d G2 H2 s g j r1 ⟨x, ex, x0⟩ => by
    subst ex
    cases r1
    have A2 := A.step s g j
    obtain ⟨v, e, r2⟩ := A2.env.dat i _ h
    cases r2
    obtain ⟨jw, ws, r, t, d⟩ := j
    have mS : (WDr W S lw lc cells).M S := .inr (.inl rfl)
    refine ⟨_, e, S, _, rfl, .inl ⟨_, .inr "rest", d.s, rfl, len_putK _ rfl, rfl⟩, F.nx _ _ _ _ _ (A2.step (stp_w mS (noTb_dK _)) (gok_w mS g) ⟨W.upddk jw d.mS d.s, ws, x, t, d.putR x0⟩) k⟩
theorem tr_putT {tv : TE} {n : Nat} (h : env[i]? = some (.dat (.raw (.ref S)))) (hv : EN (WDr W S lw lc cells) tv env c n (fun d => ∃ r : Int, d = .int r ∧ 0 ≤ r ∧ r ≤ (c + n + 1 : Nat))) (k : po.nx env (c + n + 1)) : Tr (WDr W S lw lc cells) (sDPut (tVar i) (tC (.str "turn")) tv) env c po := fun G0 H0 σ G H A E F =>
  hv G0 H0 σ G H A _ fun v d G2 H2 s g j r1 ⟨x, ex, x0, x1⟩ => by
    subst ex
    cases r1
    have A2 := A.step s g j
    obtain ⟨v, e, r2⟩ := A2.env.dat i _ h
    cases r2
    obtain ⟨jw, ws, r, t, d⟩ := j
    have mS : (WDr W S lw lc cells).M S := .inr (.inl rfl)
    refine ⟨_, e, S, _, rfl, .inl ⟨_, .inr "turn", d.s, rfl, len_putK _ rfl, rfl⟩, F.nx _ _ _ _ _ (A2.step (stp_w mS (noTb_dK _)) (gok_w mS g) ⟨W.mono (by omega) (W.upddk jw d.mS d.s), ws, r, x, d.putT x0 x1⟩) k⟩
theorem src_cells (h : env[i]? = some (.dat (.raw (.ref S)))) : Src (WDr W S lw lc cells) (iList K (tDGet (tVar i) (tC (.str "cells")))) env (cells.map .int) := fun c G0 H0 σ G H A R q => by
  obtain ⟨v, e, r1⟩ := A.env.dat i _ h
  cases r1
  obtain ⟨jw, ws, r, t, d⟩ := A.j
  refine ⟨_, e, S, .ref lc, rfl, DGet.k (k := .inr "cells") d.s, lc, rfl, ⟨_, SqL.of d.l⟩, q _ G H Stp.refl A.gok A.j ⟨fun i G2 H2 g e2 ⟨c2, j2⟩ hi => ?_, fun i G2 H2 g e2 ⟨c2, j2⟩ hi => ?_, fun i d2 c2 G2 H2 x H' g e2 j hd y => ?_⟩⟩
  · obtain ⟨_, ws2, _, _, d2⟩ := j2
    rw [List.length_map] at hi
    exact ⟨_, .int cells[i], SqL.of d2.l, by rw [List.getElem?_map, List.getElem?_eq_getElem hi]; rfl⟩
  · obtain ⟨_, ws2, _, _, d2⟩ := j2
    rw [List.length_map] at hi
    exact ⟨_, SqL.of d2.l, by rw [List.length_map]; exact hi⟩
  · obtain ⟨rfl, hy⟩ := y
    have j2 := j
    obtain ⟨_, ws2, _, _, d3⟩ := j2
    have := hy _ (SqL.of d3.l)
    rw [List.getElem?_map] at this hd
    cases q2 : cells[i]? with
    | none => rw [q2] at hd; cases hd
    | some z =>
      rw [q2] at this hd
      cases this
      cases hd
      exact ⟨G2, Stp.refl, g, j, .int z⟩
/-- where nothing is left, the next number: of the wide ones, or mixed up -/
theorem en_next {tm : TE} (h : env[i]? = some (.dat (.raw (.ref S)))) (hm : EN (WDr W S lw lc cells) tm env c 1 (fun d => ∃ r : Int, d = .int r ∧ 0 ≤ r)) :
    EN (WDr W S lw lc cells) (tIf (tTest (tOp (rNeD K) (tDGet (tVar i) (tC (.str "wide"))) (tLst tNil))) (tBM K "list" rPopAt (tDGet (tVar i) (tC (.str "wide"))) (tCons (tC (.int 0)) tNil)) tm) env c 1 (fun d => ∃ r : Int, d = .int r ∧ 0 ≤ r) := fun G0 H0 σ G H A Q q => by
  obtain ⟨v, e, r1⟩ := A.env.dat i _ h
  cases r1
  have j0 := A.j
  obtain ⟨jw, ws, r, t, d⟩ := j0
  refine ⟨_, e, S, .ref lw, rfl, DGet.k (k := .inr "wide") d.s, Nat.zero_le _, fun p hp => ?_⟩
  have j1 : (WDr W S lw lc cells).J c (upd H p (.lst [])) := J_new A.j hp
  have A1 := A.step (stp_new A.gok hp (o := .lst [])) (gok_new A.gok A.j hp (noTb_lst _)) j1
  have same := same_new hp (HO.lst [])
  have d1 : DrSt W.M S lw lc cells c (upd H p (.lst [])) ws r t := { d with s := same _ _ d.s, w := same _ _ d.w, l := same _ _ d.l }
  have dp1 : Dp K (upd H p (.lst [])) (.ref lw) (dLI ws).py := by
    refine Rp.dp (T := T) (W := W0 T) (G := fun b => if b = lw then some (.lst (ws.map V.int)) else none) (fun b o hb => ?_) ok_dLI (.lst (if_pos rfl) (RpL.of_ints ws))
    by_cases eb : b = lw
    · subst eb
      have hb' := (if_pos rfl).symm.trans hb
      cases hb'
      exact ⟨d1.w, noTb_lst _, fun z => z⟩
    · have hb' := (if_neg eb).symm.trans hb; cases hb'
  have dp2 : Dp K (upd H p (.lst [])) (.ref p) (dLI []).py := by
    refine Rp.dp (T := T) (W := W0 T) (G := fun b => if b = p then some (.lst []) else none) (fun b o hb => ?_) ok_dLI (.lst (if_pos rfl) .nil)
    by_cases eb : b = p
    · subst eb
      have hb' := (if_pos rfl).symm.trans hb
      cases hb'
      exact ⟨upd_same, noTb_lst _, fun z => z⟩
    · have hb' := (if_neg eb).symm.trans hb; cases hb'
  refine ⟨_, _, dp1, dp2, shaped_of_ok ok_dLI, shaped_of_ok ok_dLI, ?_⟩
  have eq : PyData.eqv (dLI ws).py (dLI []).py = decide (ws = []) := eqv_dLI
  rw [eq]
  refine ⟨_, rfl, ?_⟩
  cases ws with
  | nil =>
    refine (if_neg (by simp)).mpr ?_
    exact hm G0 H0 σ _ _ A1 Q fun v d G2 H2 s g j r p => q v d G2 H2 ((stp_new A.gok hp).trans s) g j r p
  | cons x ws =>
    refine (if_pos (by simp)).mpr ?_
    have mw : (WDr W S lw lc cells).M lw := .inr (.inr (.inl rfl))
    refine ⟨_, e, S, .ref lw, rfl, DGet.k (k := .inr "wide") d1.s, (.inl ⟨rfl, _, SqL.of d1.w⟩), lw, _, 0, 0, .int x, rfl, rfl, d1.w, by decide, by decide, by unfold seqIndex?; simp, rfl, ?_⟩
    refine q (.int x) (.int x) (upd G p (.lst [])) _ ((stp_new A.gok hp).trans (stp_w mw (noTb_lst _))) (gok_w mw A1.gok) ?_ (.int x) ⟨x, rfl, d.w0 x List.mem_cons_self⟩
    refine ⟨W.mono (by omega) (W.updl A1.j.1 d.mw d1.w), ws, r, t, { d1 with s := by rw [upd_ne (ne_of d1.s d1.w (fun z => by cases z))]; exact d1.s, w := upd_same, l := by rw [upd_ne d.ne.symm]; exact d1.l, w0 := fun y hy => d.w0 y (List.mem_cons_of_mem _ hy), tc := by have := d.tc; omega }⟩
end
end
end Fx

set_option Elab.async false
set_option linter.all false
set_option maxRecDepth 100000
set_option maxHeartbeats 4000000
/-! How the draws begin. -/
namespace Fx
open PySem PySem.Spec PyProof.Rows L2 LamX C8
section
variable {T : List (Addr × Str)} {W : Wld T} {G H G1 H1 G2 H2 H0 : Hp} {G0 : Hp × Hp} {c c' k : Nat} {K : PySem.W.Frag}
theorem ETN.imp {tt : TT} {env : Env'} {P P' : Bool → Prop} {k' : Nat} (h : ETN W tt env c k P) (hk : k ≤ k') (hp : ∀ b, P b → P' b) : ETN W tt env c k' P' := fun G0 H0 σ G H A Q q =>
  h G0 H0 σ G H A Q fun b G2 H2 s g j p => q b G2 H2 s g (W.mono (Nat.add_le_add_left hk c) j) (hp b p)
/-- a fresh list by a comprehension of which the items are known in kind -/
theorem mn_lcP {wi : TI} {tt : TT} {te : TE} {env : Env'} {j : Nat} {items : List D} (Pt : D → Bool → Prop) (Pe : D → Prop) (hs : Src W wi env items) (hz : items.length ≤ 100000) (ht : ∀ d ∈ items, ∀ c', ETN W tt (env.set j (.dat d)) c' 0 (Pt d))
    (he : ∀ d ∈ items, Pt d true → ∀ c', EN W te (env.set j (.dat d)) c' 0 Pe) : MN W (tLc wi (gName j) tt te [j]) env c 0 (fun ds => ds.length ≤ items.length ∧ ∀ d ∈ ds, Pe d) := fun G0 H0 σ G H A Q q => by
  refine mn_lc (c := c) (n := items.length) (k0 := 0) (kt := 0) (ke := 0) (fun d => env.set j (.dat d)) (fun _ d b => Pt d b) (fun _ _ e => Pe e) hs.n (fun l h => by rw [h]; exact Nat.le_refl _) hz (fun l h d hd => ?_) (fun l h i d hd c' _ => ?_) (fun l h i d hd c' _ pt => ?_) G0 H0 σ G H A Q fun p xs ds G2 H2 s g j2 hp gp nf m r ⟨l, os, hl, ol, oR, e⟩ => ?_
  · have := tgc_name (W := W) (d := d) (env := wipeE env [j]) (j := j) (vs := [j]) List.mem_cons_self
    rwa [set1] at this
  · subst h
    exact ht d (List.mem_of_getElem? hd) c'
  · subst h
    exact he d (List.mem_of_getElem? hd) pt c'
  · subst hl
    rw [Nat.add_zero, Nat.zero_mul] at j2
    refine q p xs ds G2 H2 s g j2 hp gp nf m r ⟨by rw [e]; exact Nat.le_trans (List.length_filterMap_le _ _) (by omega), fun d hd => ?_⟩
    rw [e] at hd
    obtain ⟨o, ho, ho2⟩ := List.mem_filterMap.mp hd
    have ho2 : o = some d := ho2
    subst ho2
    obtain ⟨i, hi, ei⟩ := List.mem_iff_getElem.mp ho
    have hi2 : i < l.length := by omega
    rcases oR i l[i] (some d) (List.getElem?_eq_getElem hi2) (by rw [List.getElem?_eq_getElem hi, ei]) with ⟨z, _⟩ | ⟨y, z, _, p⟩
    · cases z
    · cases z; exact p
theorem src_scr {a : Addr} {ns : List Int} {Pm : Prop} {env : Env'} {i : Nat} (h : env[i]? = some (.dat (.raw (.ref a)))) : Src (WS T K a ns Pm) (iList K (tVar i)) env (ns.map .int) := fun c G0 H0 σ G H A R q => by
  obtain ⟨v, e, r1⟩ := A.env.dat i _ h
  cases r1
  refine ⟨_, e, a, rfl, ⟨_, ws_sq A.j⟩, q _ G H Stp.refl A.gok A.j ⟨fun i G2 H2 g e2 ⟨c2, j2⟩ hi => ?_, fun i G2 H2 g e2 ⟨c2, j2⟩ hi => ?_, fun i d2 c2 G2 H2 x H' g e2 j hd y => ?_⟩⟩
  · rw [List.length_map] at hi
    exact ⟨_, .int ns[i], ws_sq j2, by rw [List.getElem?_map, List.getElem?_eq_getElem hi]; rfl⟩
  · rw [List.length_map] at hi
    exact ⟨_, ws_sq j2, by rw [List.length_map]; exact hi⟩
  · obtain ⟨rfl, hy⟩ := y
    have := hy _ (ws_sq j)
    rw [List.getElem?_map] at this hd
    cases q2 : ns[i]? with
    | none => rw [q2] at hd; cases hd
    | some z =>
      rw [q2] at this hd
      cases this
      cases hd
      exact ⟨G2, Stp.refl, g, j, .int z⟩
theorem rdl_abs {i : Int} : RDL W (fun xs H Q => ∃ i, xs = [.int i] ∧ Q (.int (if i < 0 then -i else i)) H) [.int i] (.int (i.natAbs : Nat)) := fun c G H vs g j r Q q => by
  cases r with
  | cons r1 r2 =>
  cases r2
  cases r1
  refine ⟨i, rfl, ?_⟩
  have e : (if i < 0 then -i else i) = (i.natAbs : Nat) := by
    split <;> omega
  rw [e]
  exact q.here g j (.int _)
/-- what the draws begin with -/
def SpBegun (W : Wld T) (a : Addr) : Sp := fun vs H Q _ => vs = [.ref a] ∧ ∃ G c, GOk W G H ∧ W.J c H ∧ ∀ S lw lc ws cells G2 H2, Stp W G H G2 H2 → GOk W G2 H2 → W.J c H2 → DrSt W.M S lw lc cells 0 H2 ws 0 0 → (∀ x ∈ cells, 0 ≤ x) → G2 S = none → G2 lw = none → G2 lc = none → Q (.ref S) H2
theorem ints_of (ds : List D) (h : ∀ d ∈ ds, ∃ x : Int, d = .int x ∧ 0 ≤ x) : ∃ ws : List Int, ds = ws.map .int ∧ ∀ x ∈ ws, 0 ≤ x := by
  induction ds with
  | nil => exact ⟨[], rfl, fun _ h => by cases h⟩
  | cons d r ih =>
    obtain ⟨x, rfl, hx⟩ := h d List.mem_cons_self
    obtain ⟨ws, rfl, hw⟩ := ih fun d hd => h d (List.mem_cons_of_mem _ hd)
    exact ⟨x :: ws, rfl, fun y hy => by
      rcases List.mem_cons.mp hy with rfl | hy
      · exact hx
      · exact hw y hy⟩
theorem disp_draw {tc : TE} {env : Env'} {i : Nat} {ws : List Int} (hi : env[i]? = some (.mu (ws.map .int))) (hw : ∀ x ∈ ws, 0 ≤ x) 
    (hc2 : MN W tc env c 0 (fun ds => ∃ cells : List Int, ds = cells.map .int ∧ ∀ x ∈ cells, 0 ≤ x)) {σ : L2.St} (A : At W G0 H0 c G H σ env) (Q : VK)
    (q : ∀ S lw lc cells G2 H2, Stp W G H G2 H2 → GOk W G2 H2 → W.J c H2 → DrSt W.M S lw lc cells 0 H2 ws 0 0 → (∀ x ∈ cells, 0 ≤ x) → G2 S = none → G2 lw = none → G2 lc = none → Q (.ref S) H2) :
    tDisp [(tC (.str "wide"), tVar i), (tC (.str "cells"), tc), (tC (.str "rest"), tC (.int 0)), (tC (.str "turn"), tC (.int 0))] σ H Q := by
  intro p hp
  have nf := nf_none hp
  have gp := A.gok.none hp
  have mp : ¬ W.M p := fun m => W.mtr A.j m nf
  have s1 : Stp W G H G (upd H p (.dK [])) := stp_upd Stp.refl nf (noTb_dK _)
  have A1 := A.step s1 (gok_upd A.gok gp) (J_new (o := .dK []) A.j hp)
  obtain ⟨lw, xs, e, hl, gl, r, m, _⟩ := A1.env.mu i _ hi
  have exs := RpL.ints r
  subst exs
  refine ⟨_, e, ?_⟩
  refine hc2 _ _ σ _ _ A1 _ fun lc xs ds G2 H2 s2 g2 j2 hlc glc nlc mlc r2 ⟨cells, ed, hcells⟩ => ?_
  subst ed
  have exs := RpL.ints r2
  subst exs
  have d2 := s2.hh p _ upd_same mp (noTb_dK _)
  have n2 := s2.gone gp upd_same (noTb_dK _)
  have l2 := s2.hh lw _ hl m (noTb_lst _)
  have nl2 := s2.gone gl hl (noTb_lst _)
  have neL : lw ≠ lc := fun z => nf_no hl (noTb_lst _) (z ▸ nlc)
  have neP : lw ≠ p := ne_of l2 d2 (by intro z; cases z)
  have neC : lc ≠ p := ne_of hlc d2 (by intro z; cases z)
  refine ⟨d2, [(.inr "wide", .ref lw), (.inr "cells", .ref lc), (.inr "rest", .int 0), (.inr "turn", .int 0)], rfl, by simp, ?_⟩
  have em : mergeK [] [((.inr "wide" : Key), V.ref lw), (.inr "cells", .ref lc), (.inr "rest", .int 0), (.inr "turn", .int 0)] = stD lw lc 0 0 := rfl
  rw [em]
  refine q p lw lc cells G2 (upd H2 p (.dK (stD lw lc 0 0))) (stp_upd (s1.trans s2) nf (noTb_dK _)) (gok_upd g2 n2) (W.upddk (by simpa using j2) mp d2) ⟨upd_same, by rw [upd_ne neP]; exact l2, by rw [upd_ne neC]; exact hlc, hw, by omega, by omega, by omega, neL, mp, m⟩ hcells n2 nl2 glc
/-- a def that may draw, at most k times, whatever the draws' dict -/
def SpSx (T : List (Addr × Str)) (k : Nat) (f : Addr → List D → (D → Prop) → Prop) : Sp := fun vs H Q E => ∃ (W : Wld T) (S lw lc : Addr) (cells : List Int), SpS (WDr W S lw lc cells) k (f S) vs H Q E
theorem en_callX {S lw lc : Addr} {cells : List Int} {f : Addr → List D → (D → Prop) → Prop} {E : XK} {ta : TA} {env : Env'} {n : Nat} {Pa : List D → Prop} {P : D → Prop} (h : EAN (WDr W S lw lc cells) ta env c n Pa) (hf : ∀ ds, Pa ds → f S ds P) (hc : c + n + k ≤ CAP) : EN (WDr W S lw lc cells) (tCall (SpSx T k f) [] E ta) env c (n + k) P := fun G0 H0 σ G H A Q q =>
  h G0 H0 σ G H A _ fun vs ds G1 H1 s1 g1 j1 r1 p => by
    rw [List.append_nil]
    exact ⟨W, S, lw, lc, cells, G1, c + n, ds, P, g1, j1, hc, r1, hf ds p, fun v d G2 H2 s g t r pd => q v d G2 H2 (s1.trans s) g (by rw [← Nat.add_assoc]; exact t) r pd⟩
theorem calSx {P : Program} {w : World} {mg : Str → Option Value} {base : Heap} {x : Str} {st : Stmt} {N ps : List Str} {k m : Nat} {cdv : Value} {f : Addr → List D → (D → Prop) → Prop} (F : Df K mg x st ps cdv) (Sc : scC N ps (fnScope st) = true) (len : ∀ S ds d, f S ds d → ds.length = ps.length)
    (hbody : ∀ (a : Addr) (A : Around) (outer : List Env) (s : Shared) (H : Hp) (E : XK), Room k (A.deeper (envOfC x (fnScope st) s.heap.objs.size a cdv)) →
      ∃ t, PSs (cxOf C8.CX0 P w K mg base N x (fnScope st) a cdv A outer s H E).nox (fnBody st) t ∧ ∀ (W : Wld T) (S lw lc : Addr) (cells : List Int) ds P c, f S ds P → c + m ≤ CAP → Tr (WDr W S lw lc cells) t (env0 ds (N.length - ds.length)) c ⟨fun _ c2 => P .non ∧ c2 ≤ c + m, fun r c2 => P r ∧ c2 ≤ c + m, fun _ _ => False, fun _ _ => False, fun _ _ _ => False, fun _ _ _ => False⟩) : Cal P w K mg base (k + 1) x (SpSx T m f) [] := by
  have hn : ps.length ≤ N.length := by
    have := (fnScope_by Sc).pre
    rw [← this, List.length_take]
    omega
  refine cal_of F Sc (fun vs H Q E h => ?_) fun a A outer s H vs Q E hr h => ?_
  · obtain ⟨W, S, lw, lc, cells, G, c, ds, d, _, _, _, r, hf, _⟩ := h
    rw [r.len, len S ds d hf]
  · obtain ⟨t, ht, q⟩ := hbody a A outer s H E hr
    obtain ⟨W, S, lw, lc, cells, h⟩ := h
    refine ⟨t, ht, body_S h ?_ fun ds P c => q W S lw lc cells ds P c⟩
    obtain ⟨G, c, ds, d, _, _, _, r, hf, _⟩ := h
    rw [r.len, len S ds d hf]
    exact hn
/-- what the draws begin with, whatever the script -/
def SpBegunX (T : List (Addr × Str)) (K : PySem.W.Frag) : Sp := fun vs H Q E => ∃ (a : Addr) (ns : List Int) (Pm : Prop), ns.length ≤ 1000 ∧ SpBegun (WS T K a ns Pm) a vs H Q E
theorem fn_raw {P : Program} {w : World} {mg : Str → Option Value} {base : Heap} {x : Str} {st : Stmt} {N ps : List Str} {k : Nat} {sp : Sp} {f : Addr} {fd : FuncData} (F : FunD K x x (fnArgs st) (fnBody st) (fnScope st) [] [] f fd) (S : scC N ps (fnScope st) = true) (len : ∀ vs H Q E, sp vs H Q E → vs.length = ps.length)
    (hbody : ∀ (cdv : Value) (a : Addr) (A : Around) (outer : List Env) (s : Shared) (H : Hp) (E : XK), Room k (A.deeper (envOfC x (fnScope st) s.heap.objs.size a cdv)) →
      ∃ t, PSs (cxOf C8.CX0 P w K mg base N x (fnScope st) a cdv A outer s H E).nox (fnBody st) t ∧ ∀ vs Q, sp vs H Q E → t { nx := fun _ H' => Q .non H', rt := Q } (L2.start N vs) H) : FnOk P w K mg base C8.CX0 (k + 1) f fd ps sp :=
  F.ok (fnScope_by S) len fun cdv A outer s H vs Q E hr h => let ⟨t, ht, q⟩ := hbody cdv f A outer s H E hr; ⟨t, ht.nox, q vs Q h⟩
theorem df_of {mg : Str → Option Value} {x : Str} {st : Stmt} {ps : List Str} {f : Addr} {fd : FuncData} (F : FunD K x x (fnArgs st) (fnBody st) (fnScope st) [] [] f fd) (hm : mg x = some (.ref f)) (hb : ∀ (kV doc pm : Value) (an : Option Addr) (cdv ct : Value) (us : List Value), us.length = ps.length → bindArgs (PySem.W.fnOf x x (fnArgs st) (fnBody st) (fnScope st) .none kV doc pm an cdv ct) ⟨us, []⟩ = pure (ps.zip us)) : Df K mg x st ps fd.code := by
  obtain ⟨oc, od, dV, kV, doc, pm, an, cdv, ct, osl, rfl, lk, hcd, hd, hk⟩ := F.ex
  have e : dV = .none := by
    rcases hd with ⟨_, e⟩ | ⟨n, _⟩
    · exact e
    · exact absurd rfl n
  subst e
  exact ⟨f, oc, od, kV, doc, pm, an, ct, osl, lk, hcd, hm, F.kp, .all fun us hl => hb kV doc pm an cdv ct us hl⟩
/-- a def with a table of its own -/
theorem df_tab {mg : Str → Option Value} {x : Str} {st : Stmt} {ps : List Str} {fd : FuncData} (F : FunD K x x (fnArgs st) (fnBody st) (fnScope st) [] [] (He.fAd K (x, none)) fd) (hm : mg x = some (.ref (He.fAd K (x, none)))) (hb : ∀ (kV doc pm : Value) (an : Option Addr) (cdv ct : Value) (us : List Value), us.length = ps.length → bindArgs (PySem.W.fnOf x x (fnArgs st) (fnBody st) (fnScope st) .none kV doc pm an cdv ct) ⟨us, []⟩ = pure (ps.zip us)) : Df K mg x st ps (.ref (He.cT K (x, none)).1) := by
  have h := df_of F hm hb
  obtain ⟨oc, od, dV, kV, doc, pm, an, cdv, ct, osl, rfl, lk, hcd, hd, hk⟩ := F.ex
  obtain ⟨c, ec⟩ := He.codeIn_ref hcd
  have e : He.codeOf K (x, none) = c := He.codeOf_eq lk (by exact ec)
  have e2 : (He.cT K (x, none)).1 = c := e
  rw [e2, ← ec]
  exact h
theorem seq_asg {te : TE} {i : Nat} {u : TS} {E : Ends} {σ : L2.St} {H : Hp} (h : te σ H fun v H' => u E (σ.set i (some v)) H') : tSeq (tAsg te (gName i)) u E σ H := h
theorem ret_raw {te : TE} {E : Ends} {σ : L2.St} {H : Hp} (h : te σ H E.rt) : tRet te E σ H := h
/-- a def by its reading -/
theorem cal_raw {P : Program} {w : World} {mg : Str → Option Value} {base : Heap} {x : Str} {st : Stmt} {N ps : List Str} {k : Nat} {sp : Sp} {cdv : Value} (F : Df K mg x st ps cdv) (S : scC N ps (fnScope st) = true) (len : ∀ vs H Q E, sp vs H Q E → vs.length = ps.length)
    (hbody : ∀ (a : Addr) (A : Around) (outer : List Env) (s : Shared) (H : Hp) (E : XK), Room k (A.deeper (envOfC x (fnScope st) s.heap.objs.size a cdv)) →
      ∃ t, PSs (cxOf C8.CX0 P w K mg base N x (fnScope st) a cdv A outer s H E).nox (fnBody st) t ∧ ∀ vs Q, sp vs H Q E → t { nx := fun _ H' => Q .non H', rt := Q } (L2.start N vs) H) : Cal P w K mg base (k + 1) x sp [] :=
  cal_of F S len fun f A outer s H vs Q E hr h => let ⟨t, ht, q⟩ := hbody f A outer s H E hr; ⟨t, ht, q vs Q h⟩
end
end Fx

set_option Elab.async false
set_option linter.all false
set_option maxRecDepth 100000
set_option maxHeartbeats 4000000
/-! sorted(set(t)) of ints; fresh lists; draws in short. -/
namespace Fx
open PySem PySem.Spec PyProof.Rows L2 LamX C8
section
variable {X : Cx}
/-- set(t), a tuple of ints -/
def rSetTup (K : PySem.W.Frag) (w : World) : List V → Hp → VK → Prop := fun xs H Q => ∃ (p : Addr) (ns : List Int), xs = [.ref p] ∧ SqT K H p (ns.map V.int) ∧ ns.length ≤ 1000 ∧ ∀ (q : Addr) (c : Nat), H q = none → c ≤ ns.length → Q (.ref q) (upd H q (SetO w q (fun j => decide (j ∈ ns)) c))
theorem cr_setTup (K : PySem.W.Frag) (w : World) (hc : X.calm = true) (h : X.K = K := by rfl) (hw : X.w = w := by rfl) : CallR X (.type "set") (rSetTup K w) := by
  subst h hw
  intro pins s σ H xs us Q I r h
  obtain ⟨p, ns, rfl, hq, hl, q⟩ := h
  obtain rfl := Vals.ref1 r
  obtain ⟨its, rv, pt, hz⟩ := I.tuple hq
  have hi : IntsAre its.toArray.toList ns := ints_of_vals rv
  refine call_set_tupI ns (I.ok.hd hc) (show s.heap.IsTuple p its.toArray from pt) hi (by unfold scanBound; omega) fun h' tk c R hcn k => ?_
  have hn := I.hok.fresh (Nat.le_refl s.heap.objs.size)
  exact ⟨.ref _, _, I.laid (t' := tk) k (Nat.le_refl _) (setO_new R), rfl, q _ c hn hcn⟩
theorem ksortSet (w : World) (hc : X.calm = true) (hw : X.w = w := by rfl) : CallR X (.builtin "sorted") (rSortedSet w) := by subst hw; exact cr_sortedSet hc
end
section
variable {T : List (Addr × Str)} {W : Wld T} {G H G1 H1 G2 H2 H0 : Hp} {G0 : Hp × Hp} {c c' k : Nat} {K : PySem.W.Frag}
theorem noTb_set {w : World} {a : Addr} {S : Int → Bool} {n : Nat} : NoTb (SetO w a S n) := fun _ z => by unfold SetO at z; cases z
/-- sorted(set(t)) -/
theorem en_sortedSet {w : World} {te : TE} {env : Env'} {n : Nat} {P : List Int → Prop} (h : EN W te env c n (fun d => ∃ ns, d = dI ns ∧ P ns)) (hz : ∀ ns, P ns → ns.length < 64) :
    EN W (tCB (rSortedSet w) (tCons (tCB (rSetTup K w) (tCons te tNil)) tNil)) env c n (fun d => ∃ ns ms : List Int, P ns ∧ d = dLI ms ∧ ms.Pairwise (· < ·) ∧ ∀ k, k ∈ ms ↔ k ∈ ns) := fun G0 H0 σ G H A Q q =>
  h G0 H0 σ G H A _ fun v d G1 H1 s1 g1 j1 r1 ⟨ns, e, p⟩ => by
    subst e
    cases r1 with
    | tup ha rl =>
    have hx := RpL.ints rl
    subst hx
    have hz := hz ns p
    refine ⟨_, ns, rfl, sqT_of g1 ha, by omega, fun q1 c1 hq hc1 => ?_⟩
    refine ⟨q1, _, c1, rfl, upd_same, by omega, fun ms p2 hp hm hl hn => ?_⟩
    have nf := nf_none hq
    have s2 : Stp W G1 H1 G1 (upd H1 q1 (SetO w q1 (fun j => decide (j ∈ ns)) c1)) := stp_upd Stp.refl nf noTb_set
    have g2 := gok_upd (o := SetO w q1 (fun j => decide (j ∈ ns)) c1) g1 (g1.none hq)
    have j2 := J_new (o := SetO w q1 (fun j => decide (j ∈ ns)) c1) j1 hq
    exact q (.ref p2) (dLI ms) _ _ ((s1.trans s2).trans (stp_new g2 hn)) (gok_new g2 j2 hn (noTb_lst _)) (J_new j2 hn) (.lst upd_same ((RpL.of_ints ms))) ⟨ns, ms, p, rfl, hp, fun k => by rw [hm k]; simp⟩
/-- an item of a list that changes -/
theorem ed_ixMu {ti : TE} {env : Env'} {i j : Nat} {ds : List D} {d : D} (he : env[i]? = some (.mu ds)) (h : ED W ti env (.int (j : Nat))) (hd : ds[j]? = some d) : ED W (tOp (rIx K) (tVar i) ti) env d := fun c G0 H0 σ G H A Q q => by
  obtain ⟨l, xs, e, hl, gl, r, m, _⟩ := A.env.mu i ds he
  refine ⟨_, e, ?_⟩
  refine h c G0 H0 σ G H A _ fun v G1 H1 s1 g1 j1 r1 => ?_
  cases r1
  have h1 := s1.hh l _ hl m (noTb_lst _)
  obtain ⟨v, e1, r2⟩ := r.get hd
  exact .inl ⟨_, _, _, v, rfl, rfl, SqL.of h1, atI_nat e1, q v G1 H1 s1 g1 j1 (r2.mono s1.gg)⟩
/-- list(x): a fresh one -/
theorem mn_list {te : TE} {env : Env'} {ds : List D} (h : ED W te env (.lst ds) ∨ ED W te env (.tup ds)) : MN W (tCB (fun xs H Q => ∃ p ys, xs = [.ref p] ∧ (SqL K H p ys ∨ SqT K H p ys) ∧ ∀ l, H l = none → Q (.ref l) (upd H l (.lst ys))) (tCons te tNil)) env c 0 (fun es => es = ds) := fun G0 H0 σ G H A Q q => by
  have fin : ∀ (p : Addr) (ys : List V) (G1 H1 : Hp), Stp W G H G1 H1 → GOk W G1 H1 → W.J c H1 → (SqL K H1 p ys ∨ SqT K H1 p ys) → RpL G1 ys ds → ∃ p' ys', [V.ref p] = [.ref p'] ∧ (SqL K H1 p' ys' ∨ SqT K H1 p' ys') ∧ ∀ l, H1 l = none → Q (.ref l) (upd H1 l (.lst ys')) := fun p ys G1 H1 s1 g1 j1 hq rl =>
    ⟨p, ys, rfl, hq, fun l hl => q l ys ds G1 (upd H1 l (.lst ys)) (s1.trans (stp_upd Stp.refl (nf_none hl) (noTb_lst _))) (gok_upd g1 (g1.none hl)) (J_new j1 hl) upd_same (g1.none hl) (s1.dom l (nf_none hl)) (fun m => W.mtr j1 m (nf_none hl)) rl rfl⟩
  rcases h with h | h
  · refine h c G0 H0 σ G H A _ fun v G1 H1 s1 g1 j1 r1 => ?_
    cases r1 with
    | lst ha rl => exact fin _ _ G1 H1 s1 g1 j1 (.inl (sqL_of g1 ha)) rl
  · refine h c G0 H0 σ G H A _ fun v G1 H1 s1 g1 j1 r1 => ?_
    cases r1 with
    | tup ha rl => exact fin _ _ G1 H1 s1 g1 j1 (.inr (sqT_of g1 ha)) rl
theorem en_if {t : TT} {ta tb : TE} {env : Env'} {k1 k2 : Nat} {Pb : Bool → Prop} {P : D → Prop} (h : ETN W t env c k1 Pb) (h1 : Pb true → EN W ta env (c + k1) k2 P) (h2 : Pb false → EN W tb env (c + k1) k2 P) : EN W (tIf t ta tb) env c (k1 + k2) P := fun G0 H0 σ G H A Q q =>
  h G0 H0 σ G H A _ fun b G1 H1 s1 g1 j1 p => by
    cases b with
    | true => exact h1 p G0 H0 σ G1 H1 (A.step s1 g1 j1) Q fun v d G2 H2 s2 g2 j2 r2 => q v d G2 H2 (s1.trans s2) g2 (by rw [← Nat.add_assoc]; exact j2) r2
    | false => exact h2 p G0 H0 σ G1 H1 (A.step s1 g1 j1) Q fun v d G2 H2 s2 g2 j2 r2 => q v d G2 H2 (s1.trans s2) g2 (by rw [← Nat.add_assoc]; exact j2) r2
theorem etn_or {t u : TT} {env : Env'} {k1 k2 : Nat} {P1 P : Bool → Prop} (h : ETN W t env c k1 P1) (h1 : P1 true → P true) (h2 : P1 false → ETN W u env (c + k1) k2 P) : ETN W (tOr t u) env c (k1 + k2) P := fun G0 H0 σ G H A Q q =>
  h G0 H0 σ G H A _ fun b G1 H1 s1 g1 j1 p => by
    cases b with
    | true => exact q true G1 H1 s1 g1 (W.mono (by omega) j1) (h1 p)
    | false => exact h2 p G0 H0 σ G1 H1 (A.step s1 g1 j1) Q fun b2 G2 H2 s2 g2 j2 p2 => q b2 G2 H2 (s1.trans s2) g2 (by rw [← Nat.add_assoc]; exact j2) p2
theorem EN.lift {te : TE} {env : Env'} {P : D → Prop} {k' : Nat} (h : EN W te env c k P) (hk : k ≤ k') : EN W te env c k' P := h.imp hk fun _ h => h
/-- [x for x in ints if ..], whatever the test says -/
theorem en_pick {wi : TI} {tt : TT} {env : Env'} {j kt : Nat} {xs : List Int} {te : TE} (hs : Src W wi env (xs.map .int)) (hz : xs.length ≤ 1000) (hj : j < env.length) (ht : ∀ x ∈ xs, ∀ c', c' + kt ≤ c + kt * xs.length → ETN W tt (env.set j (.dat (.int x))) c' kt (fun _ => True)) (e : te = tVar j) :
    EN W (tLc wi (gName j) tt te [j]) env c (kt * xs.length) (fun d => ∃ l : List Int, l.Sublist xs ∧ d = dLI l) := by
  subst e
  refine EN.imp (en_lc (c := c) (n := xs.length) (k0 := 0) (kt := kt) (ke := 0) (fun d => env.set j (.dat d)) (fun _ _ _ => True) (fun i _ y => ∃ x, xs[i]? = some x ∧ y = .int x) hs.n (fun l h => by rw [h]; simp) (by omega) (fun l h d hd => ?_) (fun l h i d hd c' hc => ?_) fun l h i d hd c' hc pt => ?_) (by simp) fun d h => ?_
  · have := tgc_name (W := W) (d := d) (env := wipeE env [j]) (j := j) (vs := [j]) List.mem_cons_self
    rwa [set1] at this
  · subst h
    obtain ⟨x, hx, rfl⟩ := List.mem_map.mp (List.mem_of_getElem? hd)
    exact ht x hx c' (by simpa using hc)
  · subst h
    rw [List.getElem?_map] at hd
    cases q : xs[i]? with
    | none => rw [q] at hd; cases hd
    | some x =>
      rw [q] at hd
      cases hd
      exact (ed_var (d := .int x) (List.getElem?_set_self hj)).n.imp (Nat.le_refl _) fun d e => ⟨x, rfl, e⟩
  · obtain ⟨l, os, rfl, ol, oR, rfl⟩ := h
    rw [List.length_map] at ol
    have key : ∀ (xs : List Int) (os : List (Option D)), os.length = xs.length → (∀ (i : Nat) (o : Option D), os[i]? = some o → o = none ∨ ∃ x, xs[i]? = some x ∧ o = some (.int x)) → ∃ l : List Int, l.Sublist xs ∧ os.filterMap id = l.map .int := by
      intro xs
      induction xs with
      | nil =>
        intro os h _
        cases os with
        | nil => exact ⟨[], .slnil, rfl⟩
        | cons o r => cases h
      | cons x r ih =>
        intro os h hp
        cases os with
        | nil => cases h
        | cons o ro =>
          obtain ⟨l, hl, el⟩ := ih ro (by simpa using h) fun i o ho => hp (i + 1) o ho
          rcases hp 0 o rfl with rfl | ⟨y, hy, rfl⟩
          · exact ⟨l, .cons _ hl, by rw [List.filterMap_cons]; exact el⟩
          · cases hy
            exact ⟨x :: l, .cons₂ _ hl, by rw [List.filterMap_cons]; show D.int x :: List.filterMap id ro = _; rw [el]; rfl⟩
    obtain ⟨l, hl, el⟩ := key xs os ol fun i o ho => by
      have hi : i < xs.length := by rw [← ol]; exact (List.getElem?_eq_some_iff.mp ho).1
      rcases oR i (.int xs[i]) o (by rw [List.getElem?_map, List.getElem?_eq_getElem hi]; rfl) ho with ⟨e, _⟩ | ⟨y, e, _, x, hx, ey⟩
      · exact .inl e
      · exact .inr ⟨x, hx, by rw [e, ey]⟩
    exact ⟨l, hl, congrArg D.lst el⟩
end
end Fx
namespace Fx
open PySem PySem.Spec PyProof.Rows L2 LamX C8
theorem tg_tup3 {T : List (Addr × Str)} {W : Wld T} {K : PySem.W.Frag} {d1 d2 d3 : D} {env : Env'} {i j m : Nat} : TgOk W (gTup K 3 (gCons (gName i) (gCons (gName j) (gCons (gName m) gNil)))) (.tup [d1, d2, d3]) env (((env.set i (.dat d1)).set j (.dat d2)).set m (.dat d3)) := fun c G0 H0 σ G H v A r Q q => by
  cases r with
  | tup h r =>
    cases r with
    | cons r1 r2 =>
    cases r2 with
    | cons r2 r3 =>
    cases r3 with
    | cons r3 r4 =>
    cases r4
    exact ⟨_, _, rfl, sqT_of A.gok h, rfl, _, _, rfl, _, _, rfl, _, _, rfl, rfl, q _ (((A.setD i r1).setD j r2).setD m r3)⟩
theorem EAN.imp1 {T : List (Addr × Str)} {W : Wld T} {c k : Nat} {ta : TA} {env : Env'} {P P' : List D → Prop} {k' : Nat} (h : EAN W ta env c k P) (hp : ∀ d, P d → P' d) (hk : k ≤ k' := by first | exact Nat.le_refl _ | decide | omega) : EAN W ta env c k' P' := fun G0 H0 σ G H A Q q =>
  h G0 H0 σ G H A Q fun v d G2 H2 s g j r p => q v d G2 H2 s g (W.mono (Nat.add_le_add_left hk c) j) r (hp d p)
end Fx
namespace Fx
open PySem PySem.Spec PyProof.Rows L2 LamX C8
section
variable {T : List (Addr × Str)} {W : Wld T} {c k : Nat}
/-- [e for x in items], e drawn -/
theorem en_mapN {wi : TI} {te : TE} {env : Env'} {j k0 ke n : Nat} {P0 : List D → Prop} {Pe : D → Prop} (hs : SrcN W wi env c k0 P0) (hn : ∀ l, P0 l → l.length ≤ n) (hz : n ≤ 100000)
    (he : ∀ l, P0 l → ∀ d ∈ l, ∀ c', c' + ke ≤ c + (k0 + ke * n) → EN W te (env.set j (.dat d)) c' ke Pe) : EN W (tLc wi (gName j) tYes te [j]) env c (k0 + ke * n) (fun d => ∃ l ds : List D, P0 l ∧ d = .lst ds ∧ ds.length = l.length ∧ ∀ x ∈ ds, Pe x) := by
  refine EN.imp (en_lc (c := c) (n := n) (k0 := k0) (kt := 0) (ke := ke) (fun d => env.set j (.dat d)) (fun _ _ b => b = true) (fun _ _ e => Pe e) hs hn hz (fun l h d hd => ?_) (fun l h i d hd c' _ => ?_) (fun l h i d hd c' hc _ => ?_)) (by simp) fun d h => ?_
  · have := tgc_name (W := W) (d := d) (env := wipeE env [j]) (j := j) (vs := [j]) List.mem_cons_self
    rwa [set1] at this
  · exact et_yes.n
  · exact he l h d (List.mem_of_getElem? hd) c' (by simpa using hc)
  · obtain ⟨l, os, h0, ol, oR, rfl⟩ := h
    have key : ∀ (l : List D) (os : List (Option D)), os.length = l.length → (∀ (i : Nat) (o : Option D), os[i]? = some o → ∃ y, o = some y ∧ Pe y) → (os.filterMap id).length = l.length ∧ ∀ x ∈ os.filterMap id, Pe x := by
      intro l
      induction l with
      | nil =>
        intro os h _
        cases os with
        | nil => exact ⟨rfl, fun x h => by cases h⟩
        | cons o r => cases h
      | cons x r ih =>
        intro os h hp
        cases os with
        | nil => cases h
        | cons o ro =>
          obtain ⟨h1, h2⟩ := ih ro (by simpa using h) fun i o ho => hp (i + 1) o ho
          obtain ⟨y, rfl, py⟩ := hp 0 o rfl
          rw [List.filterMap_cons]
          show (y :: List.filterMap id ro).length = _ ∧ ∀ x ∈ y :: List.filterMap id ro, Pe x
          refine ⟨by rw [List.length_cons, List.length_cons, h1], fun x hx => ?_⟩
          rcases List.mem_cons.mp hx with rfl | hx
          · exact py
          · exact h2 x hx
    obtain ⟨h1, h2⟩ := key l os ol fun i o ho => by
      have hi : i < l.length := by rw [← ol]; exact (List.getElem?_eq_some_iff.mp ho).1
      rcases oR i l[i] o (List.getElem?_eq_getElem hi) ho with ⟨_, z⟩ | ⟨y, e, _, p⟩
      · cases z
      · exact ⟨y, e, p⟩
    exact ⟨l, _, h0, rfl, h1, h2⟩
theorem eqv_str {a b : Str} : D.eqv (.str a) (.str b) = PyData.eqv (.str a) (.str b) := rfl
end
end Fx
namespace Fx
open PySem PySem.Spec PyProof.Rows L2 LamX C8
theorem tab_uniq {T : List (Addr × Str)} (h : (T.map (·.1)).Nodup) : ∀ p ∈ T, ∀ q ∈ T, p.1 = q.1 → p.2 = q.2 := by
  induction T with
  | nil => intro p hp; cases hp
  | cons x r ih =>
    rw [List.map_cons, List.nodup_cons] at h
    intro p hp q hq e
    rcases List.mem_cons.mp hp with e1 | hp'
    · rcases List.mem_cons.mp hq with e2 | hq'
      · rw [e1, e2]
      · exact absurd (List.mem_map.mpr ⟨q, hq', by rw [← e, e1]⟩) h.1
    · rcases List.mem_cons.mp hq with e2 | hq'
      · exact absurd (List.mem_map.mpr ⟨p, hp', by rw [e, e2]⟩) h.1
      · exact ih h.2 p hp' q hq' e
theorem tabs_start {T : List (Addr × Str)} {H : Hp} (h : ∀ p ∈ T, H p.1 = some (.tbl #[])) : Tabs T H := fun p hp => ⟨#[], h p hp, (by simp [PySem.TriplesOk]), fun pos cv z => by cases z⟩
end Fx

set_option Elab.async false
set_option linter.all false
set_option maxRecDepth 100000
set_option maxHeartbeats 4000000
/-! try / except x as n, the caught exception kept as data behind the try. -/
namespace Fx
open PySem PySem.Spec PyProof.Rows L2 LamX
section
variable {X : Cx} {pins : List (Addr × Obj)} {σ : L2.St} {H : Hp} {s : Shared}
theorem unsuite1 {a : Addr} {oe : Obj} (I : Inv (X.suite a ((a, oe) :: (X.pn ++ pins))) [] σ H s) (ok : X.Ok) : Inv X ((a, oe) :: pins) σ H s :=
  ⟨ok, I.os, I.bare, I.base, I.loc, I.cell, I.free, I.freeC, fun p hp => I.pin p (by
    show p ∈ ((a, oe) :: (X.pn ++ pins)) ++ []
    rw [List.append_nil]
    rcases List.mem_append.mp hp with h | h
    · exact List.mem_cons_of_mem _ (List.mem_append_left _ h)
    · rcases List.mem_cons.mp h with h | h
      · rw [h]; exact List.mem_cons_self
      · exact List.mem_cons_of_mem _ (List.mem_append_right _ h)), I.hok, I.len⟩
theorem adoptX {a C : Addr} {d : Option Addr} {oe : Obj} (I : Inv X ((a, oe) :: pins) σ H s) (h0 : X.s_0.heap.get? a = none) (hp : ∀ p ∈ X.pn ++ pins, p.1 ≠ a) (hz : Zc (.ref C) d oe) (hf : ∃ vs, oe.data = .fields vs) :
    Inv X pins σ (upd H a (ExO C a d)) s ∧ H a = none := by
  obtain ⟨g1, g2, g3, g4, g5⟩ := I.pin (a, oe) (List.mem_append_right _ List.mem_cons_self)
  refine ⟨?_, g2⟩
  have ne0 : ∀ b u, X.s_0.heap.get? b = some u → b ≠ a := fun b u e z => by rw [z, h0] at e; cases e
  have neH : ∀ b u, H b = some u → b ≠ a := fun b u e => ne_of_none e g2
  obtain ⟨vs, hv⟩ := hf
  refine ⟨I.ok, I.os, I.bare, ⟨I.base.keep, I.base.slot, fun b u e n hx => ?_, I.base.there, fun b xs e => ?_, fun b ob u e => ?_, fun b ps e => ?_⟩, I.loc, I.cell, ?_, fun x c e => ?_, fun p hm => ?_, fun b u e => ?_, I.len⟩
  · rw [upd_ne (ne0 b u e)]
    exact I.base.free b u e n hx
  · have q := I.base.tups b xs e
    rw [upd_ne (neH b _ q)]
    exact q
  · have q := I.base.frzs b ob u e
    rw [upd_ne (neH b _ q)]
    exact q
  · obtain ⟨m, q⟩ := I.base.tbls b ps e
    exact ⟨m, by rw [upd_ne (neH b _ q)]; exact q⟩
  · rw [upd_ne (Ne.symm g3)]
    exact I.free
  · have nc : c ≠ a := fun z => by
      obtain ⟨v, o, ho, hd⟩ := I.cell x c e
      rw [z] at ho
      have g1 : s.heap.get? a = some oe := g1
      rw [g1] at ho
      cases ho
      rw [hv] at hd
      cases hd
    rw [upd_ne nc]
    exact I.freeC x c e
  · have hm' : p ∈ X.pn ++ ((a, oe) :: pins) := by
      rcases List.mem_append.mp hm with h | h
      · exact List.mem_append_left _ h
      · exact List.mem_append_right _ (List.mem_cons_of_mem _ h)
    obtain ⟨q1, q2, q3⟩ := I.pin p hm'
    exact ⟨q1, by rw [upd_ne (hp p hm)]; exact q2, q3⟩
  · by_cases hb : b = a
    · rw [hb, upd_same] at e
      cases e
      rw [hb]
      refine ⟨⟨oe, vs, g1, hz, hv⟩, ⟨_, g1⟩, fun h1 h2 ⟨o, us, e1, e2⟩ k => ⟨o, us, k o e1, e2⟩⟩
    · rw [upd_ne hb] at e
      refine (I.hok b u e).stay (fun c v _ q => q) (fun c q => ?_) fun c xs q => ?_
      · rw [upd_ne (neH c _ q)]; exact q
      · rw [upd_ne (neH c _ q)]; exact q
end
/-- the ends behind the suite: the name is gone, the exception is data -/
def endsX (i : Nat) (C a : Addr) (d : Option Addr) (D : Ends) : Ends := { nx := fun σ' H' => H' a = none → D.nx (σ'.set i none) (upd H' a (ExO C a d)), rt := fun v H' => H' a = none → D.rt v (upd H' a (ExO C a d)), bk := fun σ' H' => H' a = none → D.bk (σ'.set i none) (upd H' a (ExO C a d)), ct := fun σ' H' => H' a = none → D.ct (σ'.set i none) (upd H' a (ExO C a d)) }
def wAd (K : PySem.W.Frag) (c : Value) (m i : Nat) (ts : Addr → Addr → Option Addr → TS) (D : Ends) : WX := fun cls d σ H =>
  ∃ C, cls = .ref C ∧ PySem.W.exmOne K cls c = some true ∧ ∀ a, H a = none → σ.length = m → ts a C d (endsX i C a d D) (σ.set i (some (.ref a))) H
section
variable {X : Cx} {x n : Str} {c : Value} {i : Nat} {body suite : List Stmt} {b₀ : Stmt} {np pos pos' : Pos} {tb : WX → TS} {ts : Addr → Addr → Option Addr → TS}
theorem ps_try_adopt (hs : X.stack = X.env :: X.outer) (hf : X.env.frame = some X.env.locals) (hex : X.ex = []) (hN : X.N.Nodup) (hi : X.N[i]? = some n) (hln : X.env.kindOf n = some .local) (hc : Names X x c)
    (hb : ∀ (W : WX) (pn : List (Addr × Obj)) (xe : Value → Shared → Prop), Takes (X.tr pn xe) W → PassesOwn (model X.prog X.w) X.A X.env xe → PSs (X.tr pn xe) body (tb W))
    (hsu : ∀ (a : Addr) (oe : Obj) (C : Addr) (d : Option Addr) (pn : List (Addr × Obj)), Zc (.ref C) d oe → (∃ vs, oe.data = .fields vs) → PSs (X.suite a ((a, oe) :: pn)) (b₀ :: suite) (ts a C d)) :
    PS X (.Try body [.ExceptHandler (some (.Name x np)) (some n) (b₀ :: suite) pos'] [] [] pos) (fun D σ H => tb (wAd X.K c X.N.length i ts D) D σ H) := by
  refine ⟨fun pins s σ H D I h => ?_⟩
  have ok := I.ok
  have hfr : X.A.frames = some (X.env :: X.outer) := by rw [ok.frames, hs]
  have hloc : Loc X.env.scope n := .inl hln
  refine wpAny_Try_except ?_
  refine wpAny_mono ((hb (wAd X.K c X.N.length i ts D) (X.pn ++ pins) (fun e s₁ => wpAny (model X.prog X.w) X.A (noteFrame e X.env) (fun _ s₂ => wpAny (model X.prog X.w) X.A (setFlight e none) (fun _ s₃ =>
    wpAny (model X.prog X.w) X.A (handleBy e X.env [.ExceptHandler (some (.Name x np)) (some n) (b₀ :: suite) pos']) (SP X pins D) X.xe s₃) X.xe s₂) X.xe s₁) (fun u s' xx => ?_) PassesOwn.looking).run [] s σ H D (I.toTry _) h) (fun f s1 hsp => ?_) (fun e s1 he => he)
  · -- the catch
    obtain ⟨a, B, sI, pins', σ', H', cls, d, rfl, J', nb, up, sky, na, os, ag, C, rfl, hb1, hyes⟩ := xx
    have J : Inv X pins σ' H' sI := J'.ofTry ok
    have sky' : Sky B (X.env :: X.outer) a (Zc (.ref C) d) X.env.locals s'.heap := by rw [← hs]; exact sky
    show wpAny (model X.prog X.w) X.A (noteFrame (.ref a) X.env) _ _ _
    refine Sky.land Zc.steady hfr hf sky' fun h3 fl3 up3 => ?_
    have J3 : Inv X pins σ' H' { s' with heap := h3 } := J.landed nb fl3.1 (up.trans up3) os ag
    obtain ⟨oe3, vs3, he3, hz3, hd3⟩ := fl3.there
    have notFr : ∀ {h : Heap} {o : Obj} {vs : Array Value}, h.FunFrames B (X.env :: X.outer) → h.get? a = some o → o.data = .fields vs → a ∉ frs (X.env :: X.outer) := fun {h o vs} ff e dd hm => by
      obtain ⟨_, o', e', hnf⟩ := ff.mem hm
      rw [e] at e'; cases e'
      exact hnf _ dd
    have nfr := notFr fl3.2.2.1 he3 hd3
    have nfrS : a ∉ frs X.stack := by rw [hs]; exact nfr
    have nB : B.get? a = none := fl3.2.1
    have h0 : X.s_0.heap.get? a = none := by
      cases q : X.s_0.heap.get? a with
      | none => rfl
      | some o =>
        obtain ⟨o', e'⟩ := J.base.there a o q (by rw [hex]; simp)
        rw [nb a o' e' nfrS] at nB
        cases nB
    have hp : ∀ p ∈ X.pn ++ pins, p.1 ≠ a := fun p hm z => by
      have e := (J.pin p hm).1
      rw [z] at e
      rw [nb a _ e nfrS] at nB
      cases nB
    have nL : a ≠ X.env.locals := fun z => nfr (List.mem_filterMap.mpr ⟨X.env, List.mem_cons_self, by rw [hf, z]⟩)
    have nF : a ∉ X.fs := fun hm => by
      obtain ⟨e, he, q⟩ := List.mem_filterMap.mp hm
      exact nfr (List.mem_filterMap.mpr ⟨e, List.mem_cons_of_mem _ he, q⟩)
    have S3 := J3.suite he3 hd3 na nL nF
    refine wpAny_handleBy_cons (codeAny_handlers_test ?_) (by intro q; cases q)
    have LT : PySem.W.Looks (model X.prog X.w) h3 (typeOf (.ref a)) (.ref C) := fun A Q E s k q => wpAny_typeOf_ref (k _ _ he3) (by rw [hz3.1]; exact q)
    have LM := PySem.W.exm_one (M := model X.prog X.w) (J3.kIn) LT hb1
    have test : ∀ {Q : Value → Shared → Prop} {E : Value → Shared → Prop}, Q c { s' with heap := h3 } → wpAny (model X.prog X.w) (X.A.mark (some (.ref a))) (eval (.Name x np) X.env) Q E { s' with heap := h3 } := fun {Q E} q => by
      obtain ⟨hg, hdbg, hm | ⟨hm, hv, hnn⟩⟩ := hc
      · exact ld_glob (X := X.suite a ((a, oe3) :: (X.pn ++ pins))) S3 hg hm q hdbg
      · exact ld_blt (X := X.suite a ((a, oe3) :: (X.pn ++ pins))) S3 hg hm hv q hnn hdbg
    refine test (LM.here ?_)
    refine codeAny_handlers_suite_as ?_
    refine HandSPX.lands_againZ fl3 fun h4 fl4 up4 => ?_
    have J4 : Inv X pins σ' H' { s' with heap := h4 } := J.landed nb fl4.1 ((up.trans up3).trans up4) os ag
    obtain ⟨oe4, vs4, he4, hz4, hd4⟩ := fl4.there
    have S4 := J4.suite he4 hd4 na nL nF
    refine store_ok (X := X.suite a ((a, oe4) :: (X.pn ++ pins))) (v := .ref a) S4 hN hi hloc rfl (fun s5 S5 => ?_) (.inr hln)
    refine wpAny_mono ((hsu a oe4 C d (X.pn ++ pins) hz4 ⟨_, hd4⟩).run [] s5 _ H' _ S5 (hyes a na J.len)) (fun f s6 hsp => ?_) (fun _ _ z => False.elim z)
    have end_ : ∀ {σ6 : L2.St} {H6 : Hp} {Q : Shared → Prop}, Inv (X.suite a ((a, oe4) :: (X.pn ++ pins))) [] σ6 H6 s6 → (∀ s7, Inv X pins (σ6.set i none) (upd H6 a (ExO C a d)) s7 → H6 a = none → Q s7) →
        wpAny (model X.prog X.w) X.A (do bindName X.env n .none; unbindBehindTheSuite X.env n pos') (fun _ s7 => Q s7) X.xe s6 := fun {σ6 H6 Q} S6 hq =>
      gone_ok (unsuite1 S6 ok) hN hi hln fun s7 J7 => by
        obtain ⟨J8, n8⟩ := adoptX J7 h0 hp hz4 ⟨_, hd4⟩
        exact hq s7 J8 n8
    cases f with
    | next =>
      obtain ⟨σ6, H6, S6, q6⟩ := hsp
      exact end_ S6 fun s7 J7 n7 => ⟨_, _, J7, q6 n7⟩
    | brk =>
      obtain ⟨σ6, H6, S6, q6⟩ := hsp
      exact end_ S6 fun s7 J7 n7 => ⟨_, _, J7, q6 n7⟩
    | cont =>
      obtain ⟨σ6, H6, S6, q6⟩ := hsp
      exact end_ S6 fun s7 J7 n7 => ⟨_, _, J7, q6 n7⟩
    | ret u =>
      obtain ⟨v6, σ6, H6, S6, r6, q6⟩ := hsp
      exact end_ S6 fun s7 J7 n7 => ⟨_, _, _, J7, r6, q6 n7⟩
  · cases f with
    | next =>
      obtain ⟨σ', H', J', q⟩ := hsp
      exact wpAny_execs_nil ⟨σ', H', J'.ofTry ok, q⟩
    | brk =>
      obtain ⟨σ', H', J', q⟩ := hsp
      exact ⟨σ', H', J'.ofTry ok, q⟩
    | cont =>
      obtain ⟨σ', H', J', q⟩ := hsp
      exact ⟨σ', H', J'.ofTry ok, q⟩
    | ret u =>
      obtain ⟨v, σ', H', J', r, q⟩ := hsp
      exact ⟨v, σ', H', J'.ofTry ok, r, q⟩
end
/-! ### the def that catches -/
/-- told: run it; None, or the exception -/
def TCau (K : PySem.W.Frag) (CS : Addr) : (XK → Hp → VK → Prop) → Hp → VK → Prop := fun tl H Q =>
  tl (fun cls d H' => ∃ C, cls = .ref C ∧ PySem.W.exmOne K cls (.ref CS) = some true ∧ ∀ a, H' a = none → Q (.ref a) (upd H' a (ExO C a d))) H (fun _ H' => Q .non H')
section
variable {X : Cx}
/-- try: a() / except e as y: return y / return None -/
theorem cau_gives1 {Ng : List Str} {x a e y q : Str} {sg : Scope} {g CS : Addr} {cdg : Value} {j : Nat} {p1 p2 p3 p4 p5 p6 p7 p8 p9 p10 : Pos} (hge : sg.names.lookup e = some .globalImplicit) (hme : X.mg e = some (.ref CS)) (hde : (e == ("__debug__" : Str)) = false)
    (hN : Ng = [a, y]) (hnd : Ng.Nodup) (hly : sg.names.lookup y = some .local) (hdy : (y == ("__debug__" : Str)) = false := by decide) (hcy : (y == ("__classdict__" : Str)) = false := by decide) :
    GivesTo X Ng x sg g cdg [.Try [.Expr (.Call (.Name a p1) [] [] p2) p3] [.ExceptHandler (some (.Name e p4)) (some y) [.Return (some (.Name y p5)) p6] p7] [] [] p8, .Return (some (.Constant .none j p9)) p10] a q (TCau X.K CS) := by
  subst hN
  intro f c' s H Q tl act hc h
  have hgl : Gl (cxOf C8.CX0 X.prog X.w X.K X.mg X.base [a, y] x sg g cdg X.A X.stack s H C8.E0).nox e := hge
  refine ⟨_, pss_cons (ps_try_adopt (X := (cxOf C8.CX0 X.prog X.w X.K X.mg X.base [a, y] x sg g cdg X.A X.stack s H C8.E0).nox) (c := .ref CS) (i := 1)
      (tb := fun W D σ H => ∃ Ech : XK, (∀ cls d σ' H', Ech cls d H' → W cls d σ' H') ∧ σ[0]? = some (some (.ref f)) ∧ H c' = some (CodeO c' q) ∧ tl Ech H (fun _ H' => D.nx σ H'))
      (ts := fun _ _ _ => tRet (tVar 1))
      rfl rfl rfl hnd rfl hly ⟨hgl, hde, .inl hme⟩ (fun W pn xe tk _ => ?_) (fun b oe C d pn _ _ => pss_one (ps_ret (pe_var rfl (.inl hly) hdy hcy)))) (pss_one (ps_ret pe_non)), ?_⟩
  · refine ⟨fun pins s' σ H' D I h' => ?_⟩
    obtain ⟨Ech, hW, h1, h2, h3⟩ := h'
    have hp := act W pn xe Ech p1 p2 tk hW
    have hq := pss_one (ps_expr (pos := p3) hp)
    exact hq.run pins s' σ H' D I ⟨h1, h2, h3⟩
  · refine ⟨fun cls d H' => ∃ C, cls = .ref C ∧ PySem.W.exmOne X.K cls (.ref CS) = some true ∧ ∀ a, H' a = none → Q (.ref a) (upd H' a (ExO C a d)), fun cls d σ' H' hh => ?_, rfl, hc, h⟩
    obtain ⟨C, e1, e2, e3⟩ := hh
    refine ⟨C, e1, e2, fun b hb hl => ⟨.ref b, ?_, fun _ => e3 b hb⟩⟩
    exact List.getElem?_set_self (by rw [hl]; exact (by decide : 1 < 2))
/-- n = None / try: a() / except e as y: n = y / return n -/
theorem cau_gives2 {Ng : List Str} {x a n e y q : Str} {sg : Scope} {g CS : Addr} {cdg : Value} {j : Nat} {p1 p2 p3 p4 p5 p6 p7 p8 p9 p10 p11 p12 p13 p14 : Pos} (hge : sg.names.lookup e = some .globalImplicit) (hme : X.mg e = some (.ref CS)) (hde : (e == ("__debug__" : Str)) = false)
    (hN : Ng = [a, n, y]) (hnd : Ng.Nodup) (hln : sg.names.lookup n = some .local) (hdn : (n == ("__debug__" : Str)) = false) (hcn : (n == ("__classdict__" : Str)) = false) (hly : sg.names.lookup y = some .local) (hdy : (y == ("__debug__" : Str)) = false := by decide) (hcy : (y == ("__classdict__" : Str)) = false := by decide) :
    GivesTo X Ng x sg g cdg [.Assign [.Name n p11] (.Constant .none j p9) p12, .Try [.Expr (.Call (.Name a p1) [] [] p2) p3] [.ExceptHandler (some (.Name e p4)) (some y) [.Assign [.Name n p13] (.Name y p5) p6] p7] [] [] p8, .Return (some (.Name n p14)) p10] a q (TCau X.K CS) := by
  subst hN
  intro f c' s H Q tl act hc h
  have hgl : Gl (cxOf C8.CX0 X.prog X.w X.K X.mg X.base [a, n, y] x sg g cdg X.A X.stack s H C8.E0).nox e := hge
  refine ⟨_, pss_cons (ps_set (i := 1) hnd rfl (.inl hln) pe_non) (pss_cons (ps_try_adopt (X := (cxOf C8.CX0 X.prog X.w X.K X.mg X.base [a, n, y] x sg g cdg X.A X.stack s H C8.E0).nox) (c := .ref CS) (i := 2)
      (tb := fun W D σ H => ∃ (Ech : XK) (Qn : Hp → Prop), (∀ cls d σ' H', Ech cls d H' → W cls d σ' H') ∧ (∀ H', Qn H' → D.nx σ H') ∧ σ[0]? = some (some (.ref f)) ∧ H c' = some (CodeO c' q) ∧ tl Ech H (fun _ H' => Qn H'))
      (ts := fun _ _ _ => tAsg (tVar 2) (gName 1))
      rfl rfl rfl hnd rfl hly ⟨hgl, hde, .inl hme⟩ (fun W pn xe tk _ => ?_) (fun b oe C d pn _ _ => pss_one (ps_set (i := 1) hnd rfl (.inl hln) (pe_var rfl (.inl hly) hdy hcy)))) (pss_one (ps_ret (pe_var (i := 1) rfl (.inl hln) hdn hcn)))), ?_⟩
  · refine ⟨fun pins s' σ H' D I h' => ?_⟩
    obtain ⟨Ech, Qn, hW, hQ, h1, h2, h3⟩ := h'
    have hp := act W pn xe Ech p1 p2 tk hW
    refine (pss_one (t := fun D σ H => (∀ H', Qn H' → D.nx σ H') ∧ σ[0]? = some (some (V.ref f)) ∧ H c' = some (CodeO c' q) ∧ tl Ech H (fun _ H' => Qn H')) ⟨fun pins s σ H D I h => ?_⟩).run pins s' σ H' D I ⟨hQ, h1, h2, h3⟩
    obtain ⟨hQ, h1, h2, h3⟩ := h
    exact wpAny_Expr_any (thn (hp.run pins s σ H _ I ⟨h1, h2, h3⟩) fun v s1 ⟨x, H1, I1, r1, q1⟩ => ⟨σ, H1, I1, hQ H1 q1⟩) I.quiet (by rfl)
  · refine ⟨fun cls d H' => ∃ C, cls = .ref C ∧ PySem.W.exmOne X.K cls (.ref CS) = some true ∧ ∀ a, H' a = none → Q (.ref a) (upd H' a (ExO C a d)), fun H' => Q .non H', fun cls d σ' H' hh => ?_, fun H' q => ⟨.non, rfl, q⟩, rfl, hc, h⟩
    · obtain ⟨C, e1, e2, e3⟩ := hh
      refine ⟨C, e1, e2, fun b hb hl => ⟨.ref b, ?_, fun _ => ⟨.ref b, ?_, e3 b hb⟩⟩⟩
      · exact List.getElem?_set_self (by rw [hl]; exact (by decide : 2 < 3))
      · have hl : σ'.length = 3 := hl
        match σ', hl with
        | [x0, x1, x2], _ => rfl
end
end Fx

set_option Elab.async false
set_option linter.all false
set_option maxRecDepth 100000
set_option maxHeartbeats 4000000
/-! Defs that may raise; the caught exception as data. -/
namespace Fx
open PySem PySem.Spec PyProof.Rows L2 LamX
/-- what a def ends in -/
inductive Rs where
  | ret (d : D) | exc (C : Addr) (fs : List (Str × D))
def Rs.Ok (T : List (Addr × Str)) (G H : Hp) (Q : VK) (E : XK) : Rs → Prop
  | .ret d => ∀ v G2 H2, Stp (W0 T) G H G2 H2 → GOk (W0 T) G2 H2 → Tabs T H2 → Rp G2 v d → Q v H2
  | .exc C fs => ∀ dd G2 H2, Stp (W0 T) G H G2 H2 → GOk (W0 T) G2 H2 → Tabs T H2 → XDat G2 dd fs → E (.ref C) dd H2
/-- a def of data that may raise -/
def SpR (T : List (Addr × Str)) (f : List D → Rs → Prop) : Sp := fun vs H Q E => ∃ G ds r, GOk (W0 T) G H ∧ Tabs T H ∧ RpL G vs ds ∧ f ds r ∧ r.Ok T G H Q E
/-- None, or the exception -/
def Rs.cau : Rs → D
  | .ret _ => .non
  | .exc C fs => .exc C fs
section
variable {T : List (Addr × Str)} {W : Wld T} {G H G1 H1 G2 H2 H0 : Hp} {G0 : Hp × Hp} {c c' k : Nat} {K : PySem.W.Frag} {f : List D → Rs → Prop}
/-! ### the body -/
def poR (E : XK) (r : Rs) : Po := ⟨fun _ _ => r = .ret .non, fun d _ => r = .ret d, fun _ _ => False, fun _ _ => False, E, fun C fs _ => r = .exc C fs⟩
theorem body_R {t : TS} {N : List Str} {vs : List V} {Q : VK} {E : XK} (h : SpR T f vs H Q E) (hn : vs.length ≤ N.length) (hb : ∀ ds r, f ds r → Tr (W0 T) t (env0 ds (N.length - ds.length)) 0 (poR E r)) :
    t { nx := fun _ H' => Q .non H', rt := Q } (L2.start N vs) H := by
  obtain ⟨G, ds, r, g, tb, rr, hf, q⟩ := h
  refine hb ds r hf (G, G) H _ G H (at_start (W := W0 T) (c := 0) g tb rr (by rw [← rr.len]; exact hn)) _ ⟨fun σ2 e2 c2 G2 H2 A2 e => ?_, fun v d2 c2 G2 H2 s g j r2 e => ?_, fun _ _ _ _ _ _ z => z.elim, fun _ _ _ _ _ _ z => z.elim, fun C fs d c2 G2 H2 s g j x e => ?_⟩
  · have e : r = .ret .non := e
    subst e
    exact q .non G2 H2 A2.st A2.gok A2.j .non
  · have e : r = .ret d2 := e
    subst e
    exact q v G2 H2 s g j r2
  · have e : r = .exc C fs := e
    subst e
    exact q d G2 H2 s g j x
/-- a def of the module that may raise -/
structure CalX (P : Program) (w : World) (K : PySem.W.Frag) (mg : Str → Option Value) (base : Heap) (k : Nat) (x : Str) (sp : Sp) : Prop where
  ex : ∃ (f : Addr) (fd : FuncData) (ps : List Str), FnOk P w K mg base (L2.CX P w) k f fd ps sp ∧ mg x = some (.ref f) ∧ PySem.W.keepIn K (.ref f) = true ∧ Binds K fd ps []
/-- .. and by its parameters' names, told from the last one -/
structure CalXK (P : Program) (w : World) (K : PySem.W.Frag) (mg : Str → Option Value) (base : Heap) (k : Nat) (x : Str) (ps : List Str) (sp : Sp) : Prop where
  ex : ∃ (f : Addr) (fd : FuncData), FnOk P w K mg base (L2.CX P w) k f fd ps sp ∧ mg x = some (.ref f) ∧ PySem.W.keepIn K (.ref f) = true ∧ Binds K fd ps [] ∧ ∀ us : List Value, us.length = ps.length → bindArgs fd ⟨[], ps.reverse.zip us⟩ = pure (ps.zip us.reverse)
theorem CalXK.x {P : Program} {w : World} {K : PySem.W.Frag} {mg : Str → Option Value} {base : Heap} {k : Nat} {x : Str} {ps : List Str} {sp : Sp} (c : CalXK P w K mg base k x ps sp) : CalX P w K mg base k x sp := by
  obtain ⟨f, fd, h1, h2, h3, h4, _⟩ := c.ex
  exact ⟨f, fd, ps, h1, h2, h3, h4⟩
structure DfK (K : PySem.W.Frag) (mg : Str → Option Value) (x : Str) (st : Stmt) (ps : List Str) (cdv : Value) : Prop where
  ex : ∃ (f : Addr) (oc : Value) (od : Option Addr) (kV doc pm : Value) (an : Option Addr) (ct : Value) (osl : Array (Option Value)),
    K.lookup f = some ⟨oc, od, .func (PySem.W.fnOf x x (C8.fnArgs st) (C8.fnBody st) (C8.fnScope st) .none kV doc pm an cdv ct), osl⟩ ∧ PySem.W.codeIn K cdv x = true ∧ mg x = some (.ref f) ∧ PySem.W.keepIn K (.ref f) = true ∧
      Binds K (PySem.W.fnOf x x (C8.fnArgs st) (C8.fnBody st) (C8.fnScope st) .none kV doc pm an cdv ct) ps [] ∧ ∀ us : List Value, us.length = ps.length → bindArgs (PySem.W.fnOf x x (C8.fnArgs st) (C8.fnBody st) (C8.fnScope st) .none kV doc pm an cdv ct) ⟨[], ps.reverse.zip us⟩ = pure (ps.zip us.reverse)
theorem SpR.len {vs : List V} {Q : VK} {E : XK} {n : Nat} (len : ∀ ds r, f ds r → ds.length = n) (h : SpR T f vs H Q E) : vs.length = n := by
  obtain ⟨G, ds, r, _, _, rr, hf, _⟩ := h
  rw [rr.len, len ds r hf]
section
variable {P : Program} {w : World} {mg : Str → Option Value} {base : Heap}
theorem calX {x : Str} {st : Stmt} {N ps : List Str} {k : Nat} {cdv : Value} (F : Df K mg x st ps cdv) (S : C8.scC N ps (C8.fnScope st) = true) (len : ∀ ds r, f ds r → ds.length = ps.length)
    (hbody : ∀ (a : Addr) (A : Around) (outer : List Env) (s : Shared) (H : Hp) (E : XK), Room k (A.deeper (envOfC x (C8.fnScope st) s.heap.objs.size a cdv)) →
      ∃ t, PSs (cxOf (L2.CX P w) P w K mg base N x (C8.fnScope st) a cdv A outer s H E) (C8.fnBody st) t ∧ ∀ ds r, f ds r → Tr (W0 T) t (env0 ds (N.length - ds.length)) 0 (poR E r)) : CalX P w K mg base (k + 1) x (SpR T f) := by
  obtain ⟨fa, oc, od, kV, doc, pm, an, ct, osl, lk, hcd, hm, kp, hb⟩ := F.ex
  have hn : ps.length ≤ N.length := by
    have := (C8.fnScope_by S).pre
    rw [← this, List.length_take]
    omega
  refine ⟨fa, _, ps, fn_of lk hcd (C8.fnScope_by S) (fun vs H Q E h => h.len len) fun A outer s H vs Q E hr hsp => ?_, hm, kp, hb⟩
  obtain ⟨t, h, q⟩ := hbody fa A outer s H E hr
  exact ⟨t, h, body_R hsp (by rw [hsp.len len]; exact hn) q⟩
theorem calXK {x : Str} {st : Stmt} {N ps : List Str} {k : Nat} {cdv : Value} (F : DfK K mg x st ps cdv) (S : C8.scC N ps (C8.fnScope st) = true) (len : ∀ ds r, f ds r → ds.length = ps.length)
    (hbody : ∀ (a : Addr) (A : Around) (outer : List Env) (s : Shared) (H : Hp) (E : XK), Room k (A.deeper (envOfC x (C8.fnScope st) s.heap.objs.size a cdv)) →
      ∃ t, PSs (cxOf (L2.CX P w) P w K mg base N x (C8.fnScope st) a cdv A outer s H E) (C8.fnBody st) t ∧ ∀ ds r, f ds r → Tr (W0 T) t (env0 ds (N.length - ds.length)) 0 (poR E r)) : CalXK P w K mg base (k + 1) x ps (SpR T f) := by
  obtain ⟨fa, oc, od, kV, doc, pm, an, ct, osl, lk, hcd, hm, kp, hb, hb2⟩ := F.ex
  have hn : ps.length ≤ N.length := by
    have := (C8.fnScope_by S).pre
    rw [← this, List.length_take]
    omega
  refine ⟨fa, _, fn_of lk hcd (C8.fnScope_by S) (fun vs H Q E h => h.len len) fun A outer s H vs Q E hr hsp => ?_, hm, kp, hb, hb2⟩
  obtain ⟨t, h, q⟩ := hbody fa A outer s H E hr
  exact ⟨t, h, body_R hsp (by rw [hsp.len len]; exact hn) q⟩
end
/-! ### raise, calls of such defs -/
/-- a class without __init__ of its own -/
structure XCl (K : PySem.W.Frag) (mg : Str → Option Value) (x : Str) (C : Addr) : Prop where
  mgC : mg x = some (.ref C)
  xin : PySem.W.excIn K C [.type "ValueError", .type "Exception", .type "BaseException", .type "object"] "ValueError.__new__" = true
  kp : PySem.W.keepIn K (.ref C) = true
  sub : PySem.W.subIn K (.ref C) (.type "BaseException") = some true
  ty : PySem.W.typeIn K (.ref C) = some (.type "type")
def tRaise (C : Addr) (E : XK) : TS := fun _ _ H => E (.ref C) none H
section
variable {X : Cx} {i j : Nat} {C : Addr} {x m : Str} {sp : Sp} {E : XK} {p p2 pos pos2 : Pos} {e : Expr} {es : List Expr} {t : TA}
theorem ps_rz (q : XCl X.K X.mg x C) (hc : X.calm = true) (tk : Takes X (fun cls d _ H => E cls d H)) (hg : Gl X x) (hdb : (x == ("__debug__" : Str)) = false := by decide) : PS X (.Raise (some (.Call (.Name x p) [.Constant (.str m) i p2] [] pos)) none pos2) (tRaise C E) :=
  ps_raise hc tk (pmk_own PySem.F.excBase_ValueError q.xin q.mgC q.kp (raises_own q.sub q.ty) hg hdb)
theorem pe_cx {k : Nat} (c : CalX X.prog X.w X.K X.mg X.base k x sp) (hr : Room j X.A) (hk : k ≤ j) (hg : Gl X x) (tk : Takes X (fun cls d _ H => E cls d H)) (ha : PA X (e :: es) t)
    (hdb : (x == ("__debug__" : Str)) = false := by decide) (he : starEach (e :: es) X.env = (false, eval e X.env) :: starEach es X.env := by rfl) (hpl : (backTo pos (starEach es X.env)).any (·.1) = false := by rfl) :
    PE X (.Call (.Name x p) (e :: es) [] pos) (tCall sp [] E t) := by
  obtain ⟨f, fd, ps, F, hm, kp, b⟩ := c.ex
  exact pe_call F (hr.mono hk) hg hm kp b .nil (passes_call tk fun _ _ _ _ h => h) ha hdb he hpl
theorem takesN {X : Cx} : Takes X (fun cls d _ H => (fun _ _ _ => False : XK) cls d H) := takes0
/-- all arguments by name, from the last one -/
def tCallR (sp : Sp) (E : XK) (n : Nat) (t : TA) : TE := fun σ H Q => t σ H fun vs H1 => vs.length = n ∧ sp vs.reverse H1 Q E
theorem vals_rev : ∀ {vs : List V} {us : List Value}, Vals vs us → Vals vs.reverse us.reverse
  | _, _, .nil => .nil
  | _, _, .cons h r => by
    rw [List.reverse_cons, List.reverse_cons]
    exact (vals_rev r).append (.cons h .nil)
theorem pe_cxk {k : Nat} {ps : List Str} {kws : List Keyword} (c : CalXK X.prog X.w X.K X.mg X.base k x ps sp) (hr : Room j X.A) (hk : k ≤ j) (hg : Gl X x) (tk : Takes X (fun cls d _ H => E cls d H)) (hkw : PK X kws t)
    (hall : (backToKw pos (keywordEach kws X.env)).all (·.1.isSome) = true := by rfl) (hks : (backToKw pos (keywordEach kws X.env)).filterMap (·.1) = ps.reverse := by rfl) (hdb : (x == ("__debug__" : Str)) = false := by decide)
    (hpl : ((backTo pos (starEach [] X.env)).any (·.1) || (backToKw pos (keywordEach kws X.env)).any (·.1.isNone)) = false := by rfl) :
    PE X (.Call (.Name x p) [] kws pos) (tCallR sp E ps.length t) := by
  obtain ⟨f, fd, F, hm, kp, _, b⟩ := c.ex
  refine ⟨fun pins s σ H Q I h => ?_⟩
  refine wpAny_Call_Name_kw (ld_glob I hg hm ?_ hdb)
  refine PySem.W.callWith_KW0 (h₀ := X.base) I.ok.mod.kin kp hall ?_ hpl
  refine thn (hkw.run pos pins s σ H _ I h) fun ws s2 ⟨zs, H2, I2, rz, l1, q2⟩ => ⟨I2.kIn, ?_⟩
  rw [hks]
  have hl : ws.length = ps.length := by rw [← rz.length]; exact l1
  refine wpAny_call (codeAny_mono (F.run X.A X.stack s2 H2 ⟨[], ps.reverse.zip ws⟩ ws.reverse zs.reverse Q E (hr.mono hk) I2.env0 (.of_eq (b ws hl)) (vals_rev rz) q2) fun r s' hq => ?_)
  cases r with
  | error e => exact passes_call tk (fun _ _ _ _ h => h) pins σ H2 s2 e s' I2 hq
  | ok fl =>
    cases fl with
    | ret u => exact I2.after hq
    | next => exact False.elim hq
    | brk => exact False.elim hq
    | cont => exact False.elim hq
end
/-! ### the rules for data -/
theorem okR_ret {Q : VK} {E : XK} {d : D} (g : GOk W G H) (j : W.J c H) (q : ∀ v G2 H2, Stp W G H G2 H2 → GOk W G2 H2 → W.J c H2 → Rp G2 v d → Q v H2) : (Rs.ret d).Ok T G H Q E := fun v G2 H2 s g2 t r => q v G2 H2 s.lift (g.lift j s g2) (J_lift j s t) r
theorem okR_exc {Q : VK} {E : XK} {C : Addr} {fs : List (Str × D)} (g : GOk W G H) (j : W.J c H) (q : ∀ dd G2 H2, Stp W G H G2 H2 → GOk W G2 H2 → W.J c H2 → XDat G2 dd fs → E (.ref C) dd H2) : (Rs.exc C fs).Ok T G H Q E := fun dd G2 H2 s g2 t r => q dd G2 H2 s.lift (g.lift j s g2) (J_lift j s t) r
theorem ed_callR {E : XK} {ta : TA} {env : Env'} {ds : List D} {d : D} (h : EA W ta env ds) (hf : f ds (.ret d)) : ED W (tCall (SpR T f) [] E ta) env d := fun c G0 H0 σ G H A Q q =>
  h c G0 H0 σ G H A _ fun vs G1 H1 s1 g1 j1 r1 => by
    rw [List.append_nil]
    exact ⟨G1, ds, _, g1.drop, W.tabs j1, r1, hf, okR_ret g1 j1 fun v G2 H2 s g j r => q v G2 H2 (s1.trans s) g j r⟩
theorem RpL.rev {G : Hp} : ∀ {vs : List V} {ds : List D}, RpL G vs ds → RpL G vs.reverse ds.reverse
  | _, _, .nil => .nil
  | _, _, .cons h r => by
    rw [List.reverse_cons, List.reverse_cons]
    exact (RpL.rev r).app (.cons h .nil)
theorem ed_callRk {E : XK} {ta : TA} {env : Env'} {ds : List D} {d : D} {n : Nat} (h : EA W ta env ds) (hn : ds.length = n) (hf : f ds.reverse (.ret d)) : ED W (tCallR (SpR T f) E n ta) env d := fun c G0 H0 σ G H A Q q =>
  h c G0 H0 σ G H A _ fun vs G1 H1 s1 g1 j1 r1 => by
    refine ⟨by rw [r1.len]; exact hn, ?_⟩
    exact ⟨G1, ds.reverse, _, g1.drop, W.tabs j1, r1.rev, hf, okR_ret g1 j1 fun v G2 H2 s g j r => q v G2 H2 (s1.trans s) g j r⟩
/-- an expression that raises -/
def EXc (W : Wld T) (te : TE) (env : Env') (E : XK) (C : Addr) (fs : List (Str × D)) : Prop := ∀ c G0 H0 σ G H, At W G0 H0 c G H σ env → (∀ dd G2 H2, Stp W G H G2 H2 → GOk W G2 H2 → W.J c H2 → XDat G2 dd fs → E (.ref C) dd H2) → ∀ Q : VK, te σ H Q
theorem ex_callR {E : XK} {ta : TA} {env : Env'} {ds : List D} {C : Addr} {fs : List (Str × D)} (h : EA W ta env ds) (hf : f ds (.exc C fs)) : EXc W (tCall (SpR T f) [] E ta) env E C fs := fun c G0 H0 σ G H A q Q =>
  h c G0 H0 σ G H A _ fun vs G1 H1 s1 g1 j1 r1 => by
    rw [List.append_nil]
    exact ⟨G1, ds, _, g1.drop, W.tabs j1, r1, hf, okR_exc g1 j1 fun v G2 H2 s g j r => q v G2 H2 (s1.trans s) g j r⟩
section
variable {env : Env'} {po : Po} {te : TE} {u : TS} {C : Addr} {fs : List (Str × D)}
theorem tr_raise (h : po.xP C [] c) : Tr W (tRaise C po.xE) env c po := fun G0 H0 σ G H A E F => F.xx C [] none c G H A.st A.gok A.j rfl h
theorem trx {Q : VK} {σ : L2.St} {E : Ends} (h : EXc W te env po.xE C fs) (hp : po.xP C fs c) (A : At W G0 H0 c G H σ env) (F : Fits W G0 H0 po E) : te σ H Q :=
  h c _ _ _ _ _ A (fun dd G2 H2 s g j x => F.xx C fs dd c G2 H2 (A.st.trans s) g j x hp) Q
theorem tr_dropX (h : EXc W te env po.xE C fs) (hp : po.xP C fs c) : Tr W (tSeq (tDrop te) u) env c po := fun G0 H0 σ G H A E F => trx h hp A F
theorem tr_dropX1 (h : EXc W te env po.xE C fs) (hp : po.xP C fs c) : Tr W (tDrop te) env c po := fun G0 H0 σ G H A E F => trx h hp A F
theorem tr_drop1 {d : D} (h : ED W te env d) (k : po.nx env c) : Tr W (tDrop te) env c po := fun G0 H0 σ G H A E F =>
  h c G0 H0 σ G H A _ fun v G1 H1 s1 g1 j1 r1 => F.nx _ _ _ _ _ (A.step s1 g1 j1) k
theorem tr_retX (h : EXc W te env po.xE C fs) (hp : po.xP C fs c) : Tr W (tRet te) env c po := fun G0 H0 σ G H A E F => trx h hp A F
theorem tr_tgX {g : TG} (h : EXc W te env po.xE C fs) (hp : po.xP C fs c) : Tr W (tSeq (tAsg te g) u) env c po := fun G0 H0 σ G H A E F => trx h hp A F
end
/-- the def that catches, called with a lambda -/
theorem ed_cau {ta : XK → TA} {env : Env'} {ds : List D} {r : Rs} {CS : Addr} (h : ∀ E, EA W (ta E) env ds) (hf : f ds r) (hx : ∀ C fs, r = .exc C fs → PySem.W.exmOne K (.ref C) (.ref CS) = some true) :
    ED W (tLam T (TCau K CS) fun E => tCall (SpR T f) [] E (ta E)) env r.cau := fun c G0 H0 σ G H A Q q => by
  refine ⟨W.tabs A.j, fun H1 e1 t1 => ?_⟩
  have s1 := stp_extN A.gok e1
  have g1 := gok_extN A.gok e1
  have j1 := J_extN A.j e1 t1
  refine h _ c G0 H0 σ G H1 (A.step s1 g1 j1) _ fun vs G2 H2 s2 g2 j2 r2 => ?_
  rw [List.append_nil]
  refine ⟨G2, ds, r, g2.drop, W.tabs j2, r2, hf, ?_⟩
  cases r with
  | ret d => exact okR_ret g2 j2 fun v G3 H3 s3 g3 j3 r3 => q .non G3 H3 ((s1.trans s2).trans s3) g3 j3 .non
  | exc C fs =>
    refine okR_exc g2 j2 fun dd G3 H3 s3 g3 j3 x3 => ?_
    refine ⟨C, rfl, hx C fs rfl, fun a ha => ?_⟩
    have sn := same_new (g3.none ha) (ExO C a dd)
    exact q (.ref a) _ _ (((s1.trans s2).trans s3).trans (stp_new g3 ha)) (gok_new g3 j3 ha (noTb_ext _)) (J_new j3 ha) ((x3.mono sn).rp upd_same)
/-! ### isinstance, fields -/
/-- isinstance(e, c), e an exception that is kept -/
def rIsX (K : PySem.W.Frag) : List V → Hp → VK → Prop := fun xs H Q => ∃ (a C : Addr) (d : Option Addr) (c : V) (u : Value) (b : Bool), xs = [.ref a, c] ∧ H a = some (ExO C a d) ∧ (∀ dd, d = some dd → ∃ fs, H dd = some (.xd fs)) ∧ ClsV c u ∧ ExcC K C ∧ PySem.W.kitOne K (.ref C) u = some b ∧ Q (.bl b) H
def rIsU (K : PySem.W.Frag) : List V → Hp → VK → Prop := fun xs H Q => rIsi K xs H Q ∨ rIsX K xs H Q
theorem inst_at {X : Cx} {pins : List (Addr × Obj)} {σ : L2.St} {s : Shared} {a C : Addr} {d : Option Addr} (I : Inv X pins σ H s) (h : H a = some (ExO C a d)) (hd : ∀ dd, d = some dd → ∃ fs, H dd = some (.xd fs)) : ∃ oe od, PySem.W.InstAt s.heap a oe C od := by
  obtain ⟨⟨oe, vs, g, hz, hv⟩, _, _⟩ := I.hok a _ h
  refine ⟨oe, ?_⟩
  cases d with
  | none => exact ⟨none, g, hz.1, by unfold PySem.W.notCls; rw [hv] <;> rfl, by rw [hz.2]; trivial⟩
  | some dd =>
    obtain ⟨fs, e⟩ := hd dd rfl
    have hx : ObjOk X.prog X.w H s.heap dd (.xd fs) := I.hok dd _ e
    obtain ⟨mA, hns, hr⟩ := hx
    obtain ⟨od, ho, hl⟩ := lookIn_ns hns
    exact ⟨some od, g, hz.1, by unfold PySem.W.notCls; rw [hv] <;> rfl, by rw [hz.2]; exact ho⟩
theorem call_isX {X : Cx} : CallR X (.builtin "isinstance") (rIsX X.K) := by
  intro pins s σ H xs us Q I r h
  obtain ⟨a, C, d, c, u, b, rfl, ha, hd, k, ec, e, q⟩ := h
  obtain ⟨u1, u2, rfl, r1, r2⟩ := vals2 r
  have e2 := k.eq r2
  subst e2
  obtain rfl : u1 = Value.ref a := r1
  obtain ⟨oe, od, J⟩ := inst_at I ha hd
  obtain ⟨cd, hc, _⟩ := PySem.W.any_some ec.hd
  exact PySem.W.kia_one (PySem.W.kitx_exc (by rw [hc]; rfl) ec.hg ec.hk ec.hs ec.ha ec.hn ec.ht ec.hm) I.kIn J e (fun z => nomatch z) fun tk => ⟨.bl b, H, I.tok tk, rfl, q⟩
theorem call_isU {X : Cx} : CallR X (.builtin "isinstance") (rIsU X.K) := fun pins s σ H xs us Q I r h => h.elim (fun h => call_isi pins s σ H xs us Q I r h) fun h => call_isX pins s σ H xs us Q I r h
theorem rdl_isX {C C2 : Addr} {fs : List (Str × D)} {b : Bool} (ec : ExcC K C) (hk : PySem.W.kitOne K (.ref C) (.ref C2) = some b) : RDL W (rIsU K) [.exc C fs, .raw (.ref C2)] (.bl b) := fun c G H vs g j r Q q => by
  cases r with
  | cons r1 r2 =>
    cases r2 with
    | cons r2 r3 =>
      cases r3
      cases r2
      cases r1 with
      | exc0 h => exact .inr ⟨_, C, none, _, _, b, rfl, g.same _ _ h, (fun dd z => by cases z), .own C2, ec, hk, q.here g j (.bl _)⟩
      | @exc1 _ _ dd _ _ h h' rf => exact .inr ⟨_, C, some dd, _, _, b, rfl, g.same _ _ h, (fun e z => by cases z; exact ⟨_, g.same _ _ h'⟩), .own C2, ec, hk, q.here g j (.bl _)⟩
theorem rdl_isN {D : Addr} {b : Bool} (hk : PySem.W.kitOne K (.type "NoneType") (.ref D) = some b) : RDL W (rIsU K) [.non, .raw (.ref D)] (.bl b) := fun c G H vs g j r Q q => by
  cases r with
  | cons r1 r2 =>
    cases r2 with
    | cons r2 r3 =>
      cases r3
      cases r2
      cases r1
      exact .inl ⟨_, _, _, _, b, rfl, .own D, .base .non, hk, q.here g j (.bl _)⟩
/-- e.n -/
def tFld (K : PySem.W.Frag) (n : Str) (te : TE) : TE := fun σ H Q => te σ H fun x H1 => ∃ (a C dd : Addr) (fs : List (Str × V)) (v : V), x = .ref a ∧ H1 a = some (ExO C a (some dd)) ∧ XfC K C ∧ PySem.W.findIn K (.ref C) n = some none ∧ H1 dd = some (.xd fs) ∧ fs.lookup n = some v ∧ Q v H1
theorem pe_fld {X : Cx} {e : Expr} {te : TE} {pos : Pos} {n : Str} (he : PE X e te) (hb : attributeBase e n X.env (eval e X.env) = eval e X.env := by rfl) : PE X (.Attribute e n pos) (tFld X.K n te) := by
  refine ⟨fun pins s σ H Q I h => ?_⟩
  refine attr_of hb (thn (he.run pins s σ H _ I h) fun u s1 hh => ?_)
  obtain ⟨x, H1, I1, rx, a, C, dd, fs, v, ex, ea, TX, hno, ed, l, q⟩ := hh
  subst ex
  obtain rfl : u = Value.ref a := rx
  obtain ⟨⟨oe, vs, g, hz, hv⟩, _, _⟩ := I1.hok a _ ea
  have hx : ObjOk X.prog X.w H1 s1.heap dd (.xd fs) := I1.hok dd _ ed
  obtain ⟨mA, hns, hr⟩ := hx
  obtain ⟨od, ho, hl⟩ := lookIn_ns hns
  obtain ⟨u, hu, ru⟩ := RelO.some_of (v := v) (o := mA n) (by rw [← l]; exact hr n)
  have J : PySem.W.InstAt s1.heap a oe C (some od) := ⟨g, hz.1, by unfold PySem.W.notCls; rw [hv] <;> rfl, by rw [hz.2]; exact ho⟩
  exact HandSPX.exc_get I1.kIn J TX.ga TX.gg TX.exC (PySem.W.findObj_own TX.hdC hno rfl (by rw [hl, hu])) (handed_of ru) ⟨v, H1, I1.tok _, ru, q⟩
theorem ed_fld {env : Env'} {te : TE} {C : Addr} {fs : List (Str × D)} {n : Str} {d : D} (h : ED W te env (.exc C fs)) (hX : XfC K C) (hno : PySem.W.findIn K (.ref C) n = some none) (hl : fs.lookup n = some d) : ED W (tFld K n te) env d := fun c G0 H0 σ G H A Q q =>
  h c G0 H0 σ G H A _ fun v G1 H1 s1 g1 j1 r1 => by
    cases r1 with
    | exc0 h => cases hl
    | exc1 h h' rf =>
      obtain ⟨v, e1, r2⟩ := rf.lookup hl
      exact ⟨_, _, _, _, v, rfl, g1.same _ _ h, hX, hno, g1.same _ _ h', e1, q v G1 H1 s1 g1 j1 r2⟩
end
end Fx

set_option Elab.async false
set_option linter.all false
set_option maxRecDepth 100000
set_option maxHeartbeats 4000000
/-! Tuples turned about, dicts that change, texts, repr. -/
namespace Fx
open PySem PySem.Spec PyProof.Rows L2 LamX
/-! ### t[::-1] -/
section
variable {prog : Program} {w : World} {A : Around} {E : Value → Shared → Prop} {s : Shared}
theorem rev_pick (xs : Array Value) : ((List.range xs.size).filterMap fun (k : Nat) => xs[(((xs.size : Int) - 1) + (k : Int) * (-1)).toNat]?).toArray = xs.toList.reverse.toArray := by
  have h := PySem.W.krv_all xs
  have e : (List.range xs.size).filterMap (fun (k : Nat) => xs[(((xs.size : Int) - 1) + (k : Int) * (-1)).toNat]?) = ((List.range xs.size).map fun k => xs.size - 1 - k).filterMap (xs[·]?) := by
    rw [List.filterMap_map]
    have cong : ∀ l : List Nat, (∀ k ∈ l, k < xs.size) → l.filterMap (fun (k : Nat) => xs[(((xs.size : Int) - 1) + (k : Int) * (-1)).toNat]?) = l.filterMap ((xs[·]?) ∘ fun k => xs.size - 1 - k) := by
      intro l
      induction l with
      | nil => intro _; rfl
      | cons k r ih =>
        intro hl
        have hk := hl k List.mem_cons_self
        have e1 : (((xs.size : Int) - 1) + (k : Int) * (-1)).toNat = xs.size - 1 - k := by omega
        rw [List.filterMap_cons, List.filterMap_cons, ih fun k' hk' => hl k' (List.mem_cons_of_mem _ hk'), e1]
        rfl
    exact cong _ fun k hk => List.mem_range.mp hk
  rw [e, PySem.W.krv_range, List.filterMap_reverse, h]
theorem getItem_rev {t sl : Addr} {items : Array Value} {vs : Value} {Q : Value → Shared → Prop} (ht : IsTup s.heap t items) (hs : s.heap.IsSliceOf sl .none .none vs) (ps : IsPart vs (some (-1)))
    (h : Q (.ref s.heap.objs.size) { s with heap := s.heap.push { cls := .type "tuple", data := .seq items.toList.reverse.toArray } }) (hsz : items.size ≤ sizeLine) : wpAny (model prog w) A (getItem (.ref t) (.ref sl)) Q E s := by
  have htake : sizeOk (.seq items.toList.reverse.toArray) := by
    show items.toList.reverse.toArray.size ≤ sizeLine
    rw [List.size_toArray, List.length_reverse, Array.length_toList]
    exact hsz
  obtain ⟨os, hos, hcs, hds⟩ := id hs
  have hTs : s.TypeIs (.ref sl) "slice" := ⟨os, hos, hcs⟩
  unfold getItem
  try with_reducible refine wpAny_holding ?_
  first | refine wpAny_bind (wpAny_pure ?_) | skip
  refine wpAny_bind (wpAny_sequenceKey ht.typeIs (by decide) ?_)
  refine wpAny_bind (wpAny_callSpecial?_slot (name := Str.ofString "__getitem__") ht.typeIs PyProof.Rows.slot_tuple_getitem
    (wpAny_call_entry PyProof.Rows.slot_tuple_getitem ht.typeIs entry_tuple_getitem ?_ (args_tuple_getitem _ _)))
  show wpAny _ _ (Builtin.Tuple.tupleItemsOf (.ref t) >>= _) _ _ s
  refine wpAny_bind (tupleItemsOf_ ht ?_)
  refine wpAny_bind (wpAny_typeOf hTs ?_)
  rw [if_pos (by decide)]
  have happ : ∀ {Q' : Int × Int × Nat → Shared → Prop} {E' : Value → Shared → Prop} {A' : Around}, Q' ((items.size : Int) - 1, -1, items.size) s → wpAny (model prog w) A' (Builtin.Slice.sliceApplied (.ref sl) (pure (items.size : Int))) Q' E' s := by
    intro Q' E' A' hq
    unfold Builtin.Slice.sliceApplied Builtin.Slice.sliceFields
    refine wpAny_bind (wpAny_bind (wpAny_field hos hds (x := .none) rfl (wpAny_bind (wpAny_field hos hds (x := .none) rfl (wpAny_bind (wpAny_field hos hds (x := vs) rfl (wpAny_pure ?_)))))))
    refine wpAny_bind (HT.slicePart_ ps ?_)
    show wpAny _ _ (if ((-1 : Int) == 0) = true then _ else _) _ _ s
    rw [if_neg (by decide)]
    refine wpAny_bind (HT.slicePart_ .none (wpAny_bind (HT.slicePart_ .none (wpAny_bind (wpAny_pure ?_)))))
    show wpAny _ _ (pure ((items.size : Int) - 1, (-1 : Int), Builtin.Slice.slicePlaces ((items.size : Int) - 1) (-1) (-1))) _ _ s
    have e : Builtin.Slice.slicePlaces ((items.size : Int) - 1) (-1) (-1) = items.size := by
      unfold Builtin.Slice.slicePlaces
      have h1 : ¬ ((-1 : Int) > 0) := by omega
      simp only [h1, if_false]
      rw [show (- -1 : Int) = 1 by decide, Int.ediv_one]
      split <;> omega
    rw [e]
    exact wpAny_pure hq
  refine wpAny_bind (happ ?_)
  show wpAny _ _ (if ((items.size : Int) - 1 == 0 && (-1 : Int) == 1 && items.size == items.size) = true then _ else _) _ _ s
  rw [show ((items.size : Int) - 1 == 0 && (-1 : Int) == 1 && items.size == items.size) = false by simp, if_neg Bool.false_ne_true, rev_pick]
  first
    | exact wpAny_bind (m := Builtin.Tuple.tupleExact _) (wpAny_newObj_type (wpAny_pure ⟨_, rfl, wpAny_pure h⟩) htake)
    | exact wpAny_bind (m := Builtin.Tuple.tupleExact _) (wpAny_newObj_type (wpAny_bind (wpAny_pure (wpAny_pure ⟨_, rfl, wpAny_pure h⟩))) htake)
end
def tRevT (K : PySem.W.Frag) (te : TE) : TE := fun σ H Q => te σ H fun x H1 => ∃ a xs, x = .ref a ∧ SqT K H1 a xs ∧ ∀ p, H1 p = none → Q (.ref p) (upd H1 p (.tup xs.reverse))
theorem pe_revT {X : Cx} {e : Expr} {te : TE} {k : Nat} {p1 p2 p3 pos : Pos} (he : PE X e te) : PE X (.Subscript e (.Slice none none (some (.UnaryOp .USub (.Constant (.int 1) k p1) p2)) p3) pos) (tRevT X.K te) := by
  refine ⟨fun pins s σ H Q I h => ?_⟩
  refine Subscript_ (thn (he.run pins s σ H _ I h) fun v s1 ⟨x, H1, I1, r1, q1⟩ => ?_)
  obtain ⟨a, xs, ex, hx, q⟩ := q1
  subst ex
  cases r1
  have hst : PO X (some (.UnaryOp .USub (.Constant (.int 1) k p1) p2)) (tPart (tUn (rU fun i => .int (-i)) (tC (.int 1)))) := po_some (pe_un un_neg pe_int)
  refine wpAny_Slice (thn (po_none.run pins s1 σ H1 (fun o H2 => o = none ∧ H2 = H1) I1 ⟨rfl, rfl⟩) fun vl s2 ⟨l, H2, I2, pl, el, e2⟩ => ?_)
  subst el e2
  refine thn (po_none.run pins s2 σ H2 (fun o H3 => o = none ∧ H3 = H2) I2 ⟨rfl, rfl⟩) fun vu s3 ⟨u, H3, I3, pu, eu, e3⟩ => ?_
  subst eu e3
  refine thn (hst.run pins s3 σ H3 (fun o H4 => o = some (-1) ∧ H4 = H3) I3 ⟨1, rfl, -1, rfl, rfl, rfl⟩) fun vs s4 ⟨o, H4, I4, ps, eo, e4⟩ => ?_
  subst eo e4
  have I5 : Inv X pins σ H4 { s4 with heap := s4.heap.push { cls := .type "slice", data := .fields #[vl, vu, vs] } } := I4.kept (t' := s4.toks) fun b ob q => Heap.get?_push_of_some _ q
  obtain ⟨its, r, ht, hz⟩ := I5.tuple hx
  have hlen := r.length
  cases pl
  cases pu
  show wpAny (model X.prog X.w) X.A (subscriptTail e (.Slice none none (some (.UnaryOp .USub (.Constant (.int 1) k p1) p2)) p3) (.ref a) (.ref s4.heap.objs.size)) (EP X pins σ Q) X.xe { s4 with heap := s4.heap.push { cls := .type "slice", data := .fields #[.none, .none, vs] } }
  refine tail_any (ops := [.ref a, .ref s4.heap.objs.size]) ht.typeIs (PyProof.Rows.slot_tuple_getitem.lookup) ?_ (by with_unfolding_all rfl)
  refine getItem_rev ht (Heap.IsSliceOf.new _ _ _ vs) ps ?_ (by rw [List.size_toArray, ← hlen]; exact hz)
  refine ⟨.ref _, _, I5.laid (t' := s4.toks) (o := .tup xs.reverse) (fun b ob q => Heap.get?_push_of_some _ q) (Nat.le_refl _) ?_, rfl, q _ (I5.hok.fresh (Nat.le_refl _))⟩
  refine ⟨by rw [List.length_reverse]; exact hz, its.reverse, r.reverse, ?_⟩
  have := IsTup.new (h := s4.heap.push { cls := .type "slice", data := .fields #[.none, .none, vs] }) its.reverse.toArray
  exact this

section
variable {T : List (Addr × Str)} {W : Wld T} {G H G1 H1 G2 H2 H0 : Hp} {G0 : Hp × Hp} {c c' k : Nat} {K : PySem.W.Frag}
theorem ed_revT {te : TE} {env : Env'} {ds : List D} (h : ED W te env (.tup ds)) : ED W (tRevT K te) env (.tup ds.reverse) := fun c G0 H0 σ G H A Q q =>
  h c G0 H0 σ G H A _ fun v G1 H1 s1 g1 j1 r1 => by
    cases r1 with
    | tup h1 l1 => exact ⟨_, _, rfl, sqT_of g1 h1, fun p hp => q (.ref p) _ _ (s1.trans (stp_new g1 hp)) (gok_new g1 j1 hp (noTb_tup _)) (J_new j1 hp) (.tup upd_same (l1.rev.mono (same_new (g1.none hp) _)))⟩
theorem ed_revL {te : TE} {env : Env'} {ds : List D} (h : ED W te env (.lst ds)) : ED W (tRevL K te) env (.lst ds.reverse) := fun c G0 H0 σ G H A Q q =>
  h c G0 H0 σ G H A _ fun v G1 H1 s1 g1 j1 r1 => by
    cases r1 with
    | lst h1 l1 => exact ⟨_, _, rfl, sqL_of g1 h1, fun p hp => q (.ref p) _ _ (s1.trans (stp_new g1 hp)) (gok_new g1 j1 hp (noTb_lst _)) (J_new j1 hp) (.lst upd_same (l1.rev.mono (same_new (g1.none hp) _)))⟩
theorem rd_ltT {ns ms : List Int} : RD2 W (rLtT K) (dI ns) (dI ms) (.bl (HT.lexLt ns ms)) := fun c G H v1 v2 g j r1 r2 Q q => by
  cases r1 with
  | tup h1 l1 =>
    cases r2 with
    | tup h2 l2 =>
      rw [RpL.ints l1] at h1
      rw [RpL.ints l2] at h2
      exact ⟨_, _, _, _, rfl, rfl, sqT_of g h1, sqT_of g h2, q.here g j (.bl _)⟩
/-! ### texts -/
theorem rd_catS {a b : Str} (h : a.length + b.length ≤ 100000) : RD2 W (fun x y H Q => ∃ i j, x = .str i ∧ y = .str j ∧ i.length + j.length ≤ sizeLine ∧ Q (.str (i ++ j)) H) (.str a) (.str b) (.str (a ++ b)) := fun c G H v1 v2 g j r1 r2 Q q => by
  cases r1
  cases r2
  exact ⟨a, b, rfl, rfl, Nat.le_trans h (by decide), q.here g j (.str _)⟩
theorem ed_slS {te : TE} {tl th : TO} {env : Env'} {z : Str} {lo hi : Option Int} (h : ED W te env (.str z)) (hl : EO W tl env lo) (hh : EO W th env hi) (hz : z.length ≤ 100000) : ED W (tSl rSlS te tl th) env (.str (cutS z lo hi)) := fun c G0 H0 σ G H A Q q =>
  h c G0 H0 σ G H A _ fun v G1 H1 s1 g1 j1 r1 => hl c G0 H0 σ G1 H1 (A.step s1 g1 j1) _ fun G2 H2 s2 g2 j2 => hh c G0 H0 σ G2 H2 ((A.step s1 g1 j1).step s2 g2 j2) _ fun G3 H3 s3 g3 j3 => by
    cases r1
    exact ⟨z, rfl, Nat.le_trans hz (by decide), q _ G3 H3 ((s1.trans s2).trans s3) g3 j3 (.str _)⟩
theorem rdl_strI {i : Int} (h : i.natAbs.log2 < 1920) : RDL W (fun xs H Q => ∃ i, xs = [.int i] ∧ i.natAbs.log2 < 1920 ∧ Q (.str (toString i)) H) [.int i] (.str (toString i)) := fun c G H vs g j r Q q => by
  cases r with
  | cons r1 r2 =>
    cases r2
    cases r1
    exact ⟨i, rfl, h, q.here g j (.str _)⟩
/-! ### dicts that change -/
def putD (kvs : List (Key × D)) (k : Key) (v : D) : List (Key × D) := if (kvs.any fun kv => decide (kv.1 = k)) then kvs.map (fun kv => if kv.1 = k then (kv.1, v) else kv) else kvs ++ [(k, v)]
theorem putD_len (kvs : List (Key × D)) (k : Key) (v : D) : (putD kvs k v).length ≤ kvs.length + 1 := by
  unfold putD
  split
  · rw [List.length_map]; omega
  · rw [List.length_append]; exact Nat.le_refl _
theorem RpK.any {G : Hp} {k : Key} : ∀ {vs : List (Key × V)} {ds : List (Key × D)}, RpK G vs ds → (vs.any fun kv => decide (kv.1 = k)) = ds.any fun kv => decide (kv.1 = k)
  | _, _, .nil => rfl
  | _, _, .cons _ r => by rw [List.any_cons, List.any_cons, RpK.any r]
theorem RpK.repl {G : Hp} {k : Key} {v : V} {d : D} (h : Rp G v d) : ∀ {vs : List (Key × V)} {ds : List (Key × D)}, RpK G vs ds → RpK G (vs.map fun kv => if kv.1 = k then (kv.1, v) else kv) (ds.map fun kv => if kv.1 = k then (kv.1, d) else kv)
  | _, _, .nil => .nil
  | _, _, .cons (k := k') q r => by
    rw [List.map_cons, List.map_cons]
    by_cases e : k' = k
    · rw [if_pos e, if_pos e]
      exact .cons h (RpK.repl h r)
    · rw [if_neg e, if_neg e]
      exact .cons q (RpK.repl h r)
theorem RpK.put {G : Hp} {k : Key} {v : V} {d : D} (h : Rp G v d) {vs : List (Key × V)} {ds : List (Key × D)} (r : RpK G vs ds) : RpK G (putK vs k v) (putD ds k d) := by
  unfold putK putD
  rw [r.any]
  split
  · exact r.repl h
  · exact r.app (.cons h .nil)
theorem RpK.vals {G : Hp} : ∀ {vs : List (Key × V)} {ds : List (Key × D)}, RpK G vs ds → RpL G (vs.map (·.2)) (ds.map (·.2))
  | _, _, .nil => .nil
  | _, _, .cons h r => .cons h (RpK.vals r)
theorem RpK.get {G : Hp} {k : Key} {z : V} {d : D} (hz : Rp G z d) : ∀ {vs : List (Key × V)} {ds : List (Key × D)}, RpK G vs ds → Rp G ((valV vs k).getD z) ((lkD ds k).getD d)
  | _, _, .nil => hz
  | _, _, .cons (k := k') (v := v) (vs := vs) (d := d') (ds := ds) h r => by
    by_cases ek : k' = k
    · have : lkD ((k', d') :: ds) k = some d' := by simp [lkD, List.find?_cons, ek]
      rw [valV_pos ek, this]
      exact h
    · have : lkD ((k', d') :: ds) k = lkD ds k := by simp [lkD, List.find?_cons, ek]
      rw [valV_neg ek, this]
      exact RpK.get hz r
/-- x = {} -/
theorem tr_newd {u : TS} {env : Env'} {po : Po} {i : Nat} (hi : i < env.length) (k : Tr W u (env.set i (.md [])) c po) : Tr W (tSeq (tAsg tDNewK (gName i)) u) env c po := fun G0 H0 σ G H A E F => fun p hp => k _ _ _ _ _ (A.setMd i hp hi .nil) E F
/-- x[k] = e -/
theorem dput_core {ty tv : TE} {env : Env'} {i : Nat} {kvs : List (Key × D)} {ky : Key} {d : D} (he : env[i]? = some (.md kvs)) (hz : kvs.length < 100000) (hv : ED W tv env d) (hk : ED W ty env (kD ky)) {σ : L2.St} (A : At W G0 H0 c G H σ env) {Q : Hp → Prop}
    (q : ∀ G2 H2, At W G0 H0 c G2 H2 σ (env.set i (.md (putD kvs ky d))) → Q H2) (D' : Ends) (hD : ∀ H2, Q H2 → D'.nx σ H2) : sDPut (tVar i) ty tv D' σ H := by
  refine hv c _ _ _ _ _ A _ fun v G1 H1 s1 g1 j1 r1 => ?_
  have A1 := A.step s1 g1 j1
  obtain ⟨l, xs, e1, hl, rr, m, gl⟩ := ev_md A1 he
  refine ⟨_, e1, ?_⟩
  refine hk c _ _ _ _ _ A1 _ fun y G2 H2 s2 g2 j2 r2 => ?_
  have ey : y = kV ky := by
    cases ky with
    | inl n => cases r2; rfl
    | inr z => cases r2; rfl
  subst ey
  have hl2 := s2.hh l _ hl m (noTb_dK _)
  refine ⟨l, _, rfl, DPut.k hl2 (Nat.lt_of_lt_of_le (by rw [rr.len]; exact hz) (by decide)), hD _ (q G2 _ ?_)⟩
  exact (A1.step s2 g2 j2).chD he e1 ((rr.mono s2.gg).put (r1.mono s2.gg))
theorem tr_dput {ty tv : TE} {u : TS} {env : Env'} {po : Po} {i : Nat} {kvs : List (Key × D)} {ky : Key} {d : D} (he : env[i]? = some (.md kvs)) (hz : kvs.length < 100000) (hv : ED W tv env d) (hk : ED W ty env (kD ky)) (k : Tr W u (env.set i (.md (putD kvs ky d))) c po) : Tr W (tSeq (sDPut (tVar i) ty tv) u) env c po := fun G0 H0 σ G H A E F =>
  dput_core he hz hv hk A (Q := fun H2 => u E σ H2) (fun G2 H2 A2 => k _ _ _ _ _ A2 E F) _ fun _ h => h
theorem tr_dput1 {ty tv : TE} {env : Env'} {po : Po} {i : Nat} {kvs : List (Key × D)} {ky : Key} {d : D} (he : env[i]? = some (.md kvs)) (hz : kvs.length < 100000) (hv : ED W tv env d) (hk : ED W ty env (kD ky)) (k : po.nx (env.set i (.md (putD kvs ky d))) c) : Tr W (sDPut (tVar i) ty tv) env c po := fun G0 H0 σ G H A E F =>
  dput_core he hz hv hk A (Q := fun H2 => E.nx σ H2) (fun G2 H2 A2 => F.nx _ _ _ _ _ A2 k) _ fun _ h => h
/-- x.get(k, e) -/
theorem ed_mdget {ty tx : TE} {env : Env'} {i : Nat} {kvs : List (Key × D)} {ky : Key} {d : D} (he : env[i]? = some (.md kvs)) (hk : ED W ty env (kD ky)) (hx : ED W tx env d) : ED W (tDGet2 (tVar i) ty tx) env ((lkD kvs ky).getD d) := fun c G0 H0 σ G H A Q q => by
  obtain ⟨l, xs, e1, hl, rr, m, gl⟩ := ev_md A he
  refine ⟨_, e1, l, rfl, .inl ⟨xs, .inl hl⟩, ?_⟩
  refine hk c _ _ _ _ _ A _ fun y G1 H1 s1 g1 j1 r1 => ?_
  have ey : y = kV ky := by
    cases ky with
    | inl n => cases r1; rfl
    | inr z => cases r1; rfl
  subst ey
  refine hx c _ _ _ _ _ (A.step s1 g1 j1) _ fun z G2 H2 s2 g2 j2 r2 => ?_
  have hl2 := (s1.trans s2).hh l _ hl m (noTb_dK _)
  exact ⟨_, DGet.k hl2, q _ G2 H2 (s1.trans s2) g2 j2 (RpK.get r2 (rr.mono (s1.trans s2).gg))⟩
/-- x[k] -/
theorem ed_dix {ty : TE} {env : Env'} {i : Nat} {kvs : List (Key × D)} {ky : Key} {d : D} (he : env[i]? = some (.md kvs)) (hk : ED W ty env (kD ky)) (hd : lkD kvs ky = some d) : ED W (tDGet (tVar i) ty) env d := fun c G0 H0 σ G H A Q q => by
  obtain ⟨l, xs, e1, hl, rr, m, gl⟩ := ev_md A he
  refine ⟨_, e1, ?_⟩
  refine hk c _ _ _ _ _ A _ fun y G1 H1 s1 g1 j1 r1 => ?_
  have ey : y = kV ky := by
    cases ky with
    | inl n => cases r1; rfl
    | inr z => cases r1; rfl
  subst ey
  have hl2 := s1.hh l _ hl m (noTb_dK _)
  obtain ⟨v, e2, rv⟩ := (rr.mono s1.gg).lk hd
  refine ⟨l, v, rfl, ?_, q _ G1 H1 s1 g1 j1 rv⟩
  rw [← e2]
  exact DGet.k hl2
end
/-! ### list(d.values()) -/
def VwO (p a : Addr) : HO := .ext fun h => h.IsValuesView p a
def rVals : V → List V → Hp → VK → Prop := fun x vs H Q => ∃ a kvs, x = .ref a ∧ vs = [] ∧ H a = some (.dK kvs) ∧ ∀ p, H p = none → Q (.ref p) (upd H p (VwO p a))
theorem mt_vals {X : Cx} : MtR X "dict.values" rVals := by
  intro pins s σ H x xs v us Q I rx rv h
  obtain ⟨a, kvs, rfl, rfl, ha, q⟩ := h
  cases rv
  obtain rfl : v = Value.ref a := rx
  obtain ⟨_, hsys, vs, rel, dof⟩ := dk_of I.hok ha
  have dof' := dof
  obtain ⟨ob, es, ep, ho, ex, hdat, hko⟩ := dof'
  refine call_meetsIn F.slot_dict_values ⟨ob, ho, ex.1⟩ F.entry_dict_values (F.args_dict_values_1 _) (meets_dict_values (mixKind X.prog X.w) a hsys) ⟨⟨vs, dof⟩, ?_⟩
  have hp := Heap.get?_push_size s.heap (o := { cls := .type "dict_values", data := .fields #[.ref a] }) rfl
  refine ⟨.ref s.heap.objs.size, upd H s.heap.objs.size (VwO s.heap.objs.size a), I.laid (t' := s.toks) (fun b ob q => Heap.get?_push_of_some _ q) (Nat.le_refl _) ?_, rfl, q _ (I.hok.fresh (Nat.le_refl _))⟩
  exact ⟨⟨_, hp, rfl, rfl⟩, ⟨_, hp⟩, fun h1 h2 ⟨o, e1, e2⟩ k => ⟨o, k o e1, e2⟩⟩
def rListV : List V → Hp → VK → Prop := fun xs H Q => ∃ p a kvs, xs = [.ref p] ∧ H p = some (VwO p a) ∧ H a = some (.dK kvs) ∧ ∀ l, H l = none → Q (.ref l) (upd H l (.lst (kvs.map (·.2))))
theorem cr_listV {X : Cx} (hcalm : X.calm = true) : CallR X (.type "list") rListV := by
  intro pins s σ H xs us Q I r q
  obtain ⟨p, a, kvs, ex, hp, hd, q⟩ := q
  subst ex
  obtain ⟨u, eu, rx⟩ := vals1 r
  subst eu
  cases rx
  obtain ⟨z, lo, vs, rel, dd⟩ := dk_of I.hok hd
  obtain ⟨ep, hat⟩ := dd.dictAt
  obtain ⟨hv, _, _⟩ := I.hok p _ hp
  refine PySem.W.kdl_call (PySem.W.kdl_values (knd := mixKind X.prog X.w) (r := p) (d := a) (kvs := vs) (ep := ep)) (I.ok.hd hcalm) ⟨hv, hat⟩ (by rw [← rel.length]; exact z) fun h' tk acc c' hk hD hacc => ?_
  have ev : acc.toList = vs.map (·.2) := PySem.W.kdl_vals_eq acc.toList (by rw [Array.length_toList]; exact hacc.1) fun j v e => hacc.2 j v (by rw [← Array.getElem?_toList]; exact e)
  have hvv : Vals (kvs.map (·.2)) acc.toList := by
    rw [ev]
    have go : ∀ {kvs : List (Key × V)} {vs : List (Key × Value)}, KV kvs vs → Vals (kvs.map (·.2)) (vs.map (·.2)) := by
      intro kvs vs r
      induction r with
      | nil => exact .nil
      | cons h _ ih => exact .cons h.2 ih
    exact go rel
  refine ⟨.ref s.heap.objs.size, upd H s.heap.objs.size (.lst (kvs.map (·.2))), I.laid (t' := tk) hk (Nat.le_refl _)
    (show ObjOk X.prog X.w _ _ _ (.lst (kvs.map (·.2))) from ⟨by rw [List.length_map]; exact z, acc.toList, c', hvv, by rw [Array.toArray_toList]; exact hD⟩), rfl, q _ (I.hok.fresh (Nat.le_refl _))⟩
theorem ed_listV {T : List (Addr × Str)} {W : Wld T} {K : PySem.W.Frag} {env : Env'} {i : Nat} {kvs : List (Key × D)} (he : env[i]? = some (.md kvs)) : ED W (tCB rListV (tCons (tBM0 K "dict" rVals (tVar i)) tNil)) env (.lst (kvs.map (·.2))) := fun c G0 H0 σ G H A Q q => by
  obtain ⟨l, xs, e1, hl, rr, m, gl⟩ := ev_md A he
  refine ⟨_, e1, ?_, l, xs, rfl, rfl, hl, fun p hp => ?_⟩
  · exact .inr (.inr (.inl ⟨rfl, .inl ⟨xs, hl⟩⟩))
  have s1 : Stp W G H G (upd H p (VwO p l)) := stp_upd Stp.refl (nf_none hp) (noTb_ext _)
  have ne : l ≠ p := ne_of_none hl hp
  refine ⟨p, l, xs, rfl, upd_same, by rw [upd_ne ne]; exact hl, fun q' hq => ?_⟩
  have A1 := A.step s1 (gok_upd A.gok (A.gok.none hp)) (J_new (o := VwO p l) A.j hp)
  exact q (.ref q') _ _ (s1.trans (stp_new A1.gok hq)) (gok_new A1.gok A1.j hq (noTb_lst _)) (J_new A1.j hq) (.lst upd_same (rr.vals.mono (same_new (A1.gok.none hq) _)))
/-! ### repr -/
def rRepr (K : PySem.W.Frag) : List V → Hp → VK → Prop := fun xs H Q => ∃ (a : Addr) (d : PyData), xs = [.ref a] ∧ Dp K H (.ref a) d ∧ d.showable = true ∧ d.hasDict = false ∧ d.depth ≤ 64 ∧ d.shown.length ≤ sizeLine ∧ Q (.str d.shown) H
theorem cr_repr {X : Cx} (hg : X.A.guards = some []) (hu : X.A.units + 65 < cLine) : CallR X (.builtin "repr") (rRepr X.K) := by
  intro pins s σ H xs us Q I r h
  obtain ⟨a, d, rfl, hd, h1, h2, h3, h4, q⟩ := h
  obtain ⟨u, rfl, ru⟩ := vals1 r
  obtain rfl : u = Value.ref a := ru
  obtain ⟨as, hr⟩ := Dp.reads I d _ _ hd rfl
  exact repr_of_reads' hr h1 (PyData.noDict_hsm h2) hg (by omega) (fun _ _ e => e) (fun h' u tk hk => ⟨.str d.shown, H, I.kept (t' := tk) hk, ⟨u, rfl⟩, q⟩) h4
theorem rdl_repr {T : List (Addr × Str)} {W : Wld T} {K : PySem.W.Frag} {d : D} {n : Nat} (hd : (∃ ds, d = .tup ds) ∨ ∃ ds, d = .lst ds) (ho : D.ok n d = true) (hn : n ≤ 64) (hs : d.py.showable = true) (hz : d.py.shown.length ≤ sizeLine) : RDL W (rRepr K) [d] (.str d.py.shown) := fun c G H vs g j r Q q => by
  cases r with
  | @cons v _ _ _ r1 r2 =>
    cases r2
    have hr : ∃ a, v = V.ref a := by
      rcases hd with ⟨ds, rfl⟩ | ⟨ds, rfl⟩
      · cases r1 with | tup h l => exact ⟨_, rfl⟩
      · cases r1 with | lst h l => exact ⟨_, rfl⟩
    obtain ⟨a, rfl⟩ := hr
    obtain ⟨hl, hdep⟩ := lay_of_ok ho
    exact ⟨a, d.py, rfl, Rp.dp g ho r1, hs, PyData.hasDict_of_canLay _ hl, Nat.le_trans hdep hn, hz, q.here g j (.str _)⟩
/-! ### rules with K told -/
section
variable {X : Cx} (K : PySem.W.Frag)
theorem kltT (hu : X.A.units + 64 < cLine) (h : X.K = K := by rfl) : OpR X (compareOp .Lt) (rLtT K) := by subst h; exact op_ltT (by omega)
theorem kpe_revT {e : Expr} {te : TE} {k : Nat} {p1 p2 p3 pos : Pos} (he : PE X e te) (h : X.K = K := by rfl) : PE X (.Subscript e (.Slice none none (some (.UnaryOp .USub (.Constant (.int 1) k p1) p2)) p3) pos) (tRevT K te) := by subst h; exact pe_revT he
theorem kpe_revL {e : Expr} {te : TE} {k : Nat} {p1 p2 p3 pos : Pos} (he : PE X e te) (h : X.K = K := by rfl) : PE X (.Subscript e (.Slice none none (some (.UnaryOp .USub (.Constant (.int 1) k p1) p2)) p3) pos) (tRevL K te) := by subst h; exact pe_revL he
theorem kisU (h : X.K = K := by rfl) : CallR X (.builtin "isinstance") (rIsU K) := by subst h; exact call_isU
theorem krepr (hg : X.A.guards = some []) (hu : X.A.units + 65 < cLine) (h : X.K = K := by rfl) : CallR X (.builtin "repr") (rRepr K) := by subst h; exact cr_repr hg hu
end
/-- the def that catches, called with a lambda without parameters -/
theorem pe_cau {X : Cx} {T : List (Addr × Str)} {TT : (XK → Hp → VK → Prop) → Hp → VK → Prop} {x a : Str} {st : Stmt} {cdv : Value} {Ng : List Str} {c P : Addr} {k : Nat} {params : Arguments} {body : Expr} {scope : Scope} {t : XK → TE} {p lpos pos : Pos}
    (F : Df X.K X.mg x st [a] cdv) (Sg : C8.scC Ng [a] (C8.fnScope st) = true) (hNg : Ng[0]? = some a) (hva : Vis (C8.fnScope st) a) (hG : ∀ g : Addr, GivesTo X Ng x (C8.fnScope st) g cdv (C8.fnBody st) a (X.env.qual ++ "<lambda>") TT) (hg : Gl X x)
    (TB : TabB X.base X.mg c P) (hcode : X.env.code = .ref c) (hmT : (P, X.env.qual ++ "<lambda>") ∈ T) (hu : ∀ p ∈ T, p.1 = P → p.2 = X.env.qual ++ "<lambda>") (hr : Room (k + 2) X.A) (L : LamS X.env.scope scope) (hdef : defaultsOf params X.env = ([], []))
    (hbind : ∀ (q : Str) (cl : List (Str × Addr)) (pm cv ctv : Value), bindArgs (PySem.W.kla_fn "<lambda>" q params body scope cl pm cv ctv) ⟨[], []⟩ = pure [])
    (hbody : ∀ (A : Around) (outer : List Env) (s : Shared) (H : Hp) (E : XK) (f c' : Addr), Room k (A.deeper (lamEnv X scope s.heap.objs.size f c')) → PE (lamCx X A outer s H E scope f c') body (t E))
    (hdb : (x == ("__debug__" : Str)) = false := by decide) (hd : (a == ("__debug__" : Str)) = false := by decide) (hcd : (a == ("__classdict__" : Str)) = false := by decide) :
    PE X (.Call (.Name x p) [.Lambda params body scope lpos] [] pos) (tLam T TT t) := by
  obtain ⟨f, oc, od, kV, doc, pm, an, ct, osl, lk, hcd', hm, kp, hb⟩ := F.ex
  exact pe_lamcall hg hm kp lk hcd' hb (C8.fnScope_by Sg) hNg hva (hG f) TB hcode hmT hu hr L hdef hbind hbody hdb hd hcd
end Fx

set_option Elab.async false
set_option linter.all false
set_option maxRecDepth 100000
set_option maxHeartbeats 4000000
/-! What the laws share: wide numbers, draws, picks. -/
namespace Fx
open PySem PySem.Spec PyProof.Rows L2 LamX C8
section
variable {T : List (Addr × Str)} {K : PySem.W.Frag}
theorem rd_mulW {W : Wld T} {i j : Int} (h : CMulW i j) : RD2 W (rI CMulW fun i j => .int (i * j)) (.int i) (.int j) (.int (i * j)) := rd_I h fun _ => .int _
theorem rd_divW {W : Wld T} {i j : Int} (h : CDivW i j) : RD2 W (rI CDivW fun i j => .int (i / j)) (.int i) (.int j) (.int (i / j)) := rd_I h fun _ => .int _
theorem rd_pow {W : Wld T} {i j : Int} (h : CPow i j) : RD2 W (rI CPow fun i j => .int (i ^ j.toNat)) (.int i) (.int j) (.int (i ^ j.toNat)) := rd_I h fun _ => .int _
theorem natAbs_lt {x : Int} {n : Nat} (h0 : 0 ≤ x) (h : x < (2 : Int) ^ n) : x.natAbs < 2 ^ n := by
  have : ((x.natAbs : Nat) : Int) < ((2 ^ n : Nat) : Int) := by
    rw [Int.natCast_pow]
    have : ((x.natAbs : Nat) : Int) = x := Int.natAbs_of_nonneg h0
    rw [this]
    exact h
  exact Int.ofNat_lt.mp this
/-- a mixed number; a draw below n; one of some -/
def fMix (S : Addr) : List D → (D → Prop) → Prop := fun ds P => ds = [.raw (.ref S)] ∧ ∀ x : Int, 0 ≤ x → P (.int x)
def fDraw (S : Addr) : List D → (D → Prop) → Prop := fun ds P => ∃ n : Int, ds = [.raw (.ref S), .int n] ∧ 0 < n ∧ n ≤ 1000000 ∧ ∀ x : Int, 0 ≤ x → x < n → P (.int x)
def fPick (S : Addr) : List D → (D → Prop) → Prop := fun ds P => ∃ es, ds = [.raw (.ref S), .lst es] ∧ 0 < es.length ∧ es.length ≤ 100000 ∧ ∀ e ∈ es, P e
def fFew (S : Addr) : List D → (D → Prop) → Prop := fun ds P => ∃ (es : List D) (n : Int), ds = [.raw (.ref S), .lst es, .int n] ∧ es.length ≤ 300 ∧ 0 < n ∧ n ≤ 1000000 ∧ ∀ l : List D, l.Sublist es → P (.lst l)
theorem sub_of : ∀ {l : List D} {os : List (Option D)}, os.length = l.length → (∀ (i : Nat) (x : D) (o : Option D), l[i]? = some x → os[i]? = some o → o = none ∨ o = some x) → (os.filterMap id).Sublist l
  | [], [], _, _ => .slnil
  | x :: l, o :: os, hl, h => by
    have ih := sub_of (l := l) (os := os) (by simpa using hl) fun i y p h1 h2 => h (i + 1) y p (by simpa using h1) (by simpa using h2)
    rcases h 0 x o rfl rfl with rfl | rfl
    · exact ih.cons _
    · exact ih.cons₂ _
  | [], _ :: _, hl, _ => by simp at hl
  | _ :: _, [], hl, _ => by simp at hl
/-- the law: whatever the script -/
def SpLaw (T : List (Addr × Str)) (K : PySem.W.Frag) : Sp := fun vs H Q _ => ∃ (a : Addr) (ns : List Int), vs = [.ref a] ∧ LamX.Tabs T H ∧ SqL K H a (ns.map V.int) ∧ ns.length ≤ 63 ∧ ∀ H', Q (.bl true) H'
theorem At.drawn {W : Wld T} {G0 : Hp × Hp} {H0 G H G2 H2 : Hp} {c : Nat} {σ : L2.St} {env : Env'} {S lw lc : Addr} {cells ws : List Int} (A : At W G0 H0 c G H σ env) (nm : ∀ (i : Nat) (s : Slot), env[i]? = some s → s.isM = false) (s : Stp W G H G2 H2) (g : GOk W G2 H2) (j : W.J 0 H2) (d : DrSt W.M S lw lc cells 0 H2 ws 0 0) (n1 : G2 S = none) (n2 : G2 lw = none) (n3 : G2 lc = none) : At (WDr W S lw lc cells) G0 H0 0 G2 H2 σ env := by
  have st := A.st.trans s
  refine ⟨⟨st.gg, fun a o h m n => st.hh a o h (fun z => m (.inl z)) n, st.fr, st.dom⟩, A.sb.trans s.gg, fun a o h => ?_, ⟨j, ws, 0, 0, d⟩, ⟨A.env.len, fun i d h => ?_, fun i s h hs => (by rw [nm i s h] at hs; cases hs), fun i _ s _ _ _ h _ hs => (by rw [nm i s h] at hs; cases hs)⟩⟩
  · obtain ⟨h1, h2, h3⟩ := g a o h
    refine ⟨h1, h2, fun m => ?_⟩
    rcases m with m | rfl | rfl | rfl
    · exact h3 m
    · rw [n1] at h; cases h
    · rw [n2] at h; cases h
    · rw [n3] at h; cases h
  · obtain ⟨v, e, r⟩ := A.env.dat i d h
    exact ⟨v, e, r.mono s.gg⟩
theorem rdl_lenS {a : Addr} {ns : List Int} {Pm : Prop} {S lw lc : Addr} {cells : List Int} : RDL (WDr (WS T K a ns Pm) S lw lc cells) (fun xs H Q => ∃ p ys, xs = [.ref p] ∧ (SqL K H p ys ∨ SqT K H p ys) ∧ Q (.int ys.length) H) [.raw (.ref a)] (.int (ns.length : Nat)) := fun c G H vs g j r Q q => by
  cases r with
  | cons r1 r2 =>
  cases r2
  cases r1
  refine ⟨a, _, rfl, .inl (ws_sq j.1), ?_⟩
  rw [List.length_map]
  exact q.here g j (.int _)
theorem etn_not {W : Wld T} {t : TT} {env : Env'} {c k : Nat} {P P' : Bool → Prop} (h : ETN W t env c k P) (hp : ∀ b, P b → P' (!b)) : ETN W (tNot t) env c k P' := fun G0 H0 σ G H A Q q =>
  h G0 H0 σ G H A _ fun b G1 H1 s1 g1 j1 p => q (!b) G1 H1 s1 g1 j1 (hp b p)
theorem en_true {W : Wld T} {te : TE} {env : Env'} {c k : Nat} (h : EN W te env c k (fun d => d = .bl true)) : ETN W (tB te) env c k (fun b => b = true) := etn_test (h.imp (Nat.le_refl _) fun d e => ⟨true, e, rfl⟩)
/-- x, y = e1, e2, at a block's end -/
theorem tr_par1 {W : Wld T} {c : Nat} {ta : TA} {env : Env'} {po : Po} {i j : Nat} {d1 d2 : D} (h : EA W ta env [d1, d2]) (k : po.nx ((env.set i (.dat d1)).set j (.dat d2)) c) : Tr W (tPar i j ta) env c po := fun G0 H0 σ G H A E F =>
  h c G0 H0 σ G H A _ fun vs G1 H1 s1 g1 j1 r1 => by
    cases r1 with
    | cons r1 r2 =>
      cases r2 with
      | cons r2 r3 =>
        cases r3
        exact ⟨_, _, rfl, F.nx _ _ _ _ _ (((A.step s1 g1 j1).setD i r1).setD j r2) k⟩
/-- draw(S, n) -/
theorem en_take {W : Wld T} {S lw lc : Addr} {cells : List Int} {E : XK} {env : Env'} {i c : Nat} {te : TE} {n : Int} (h : env[i]? = some (.dat (.raw (.ref S)))) (hn : ED (WDr W S lw lc cells) te env (.int n)) (n0 : 0 < n) (n1 : n ≤ 1000000) (hc : c + 1 ≤ CAP) :
    EN (WDr W S lw lc cells) (tCall (SpSx T 1 fDraw) [] E (tCons (tVar i) (tCons te tNil))) env c 1 (fun d => ∃ x : Int, d = .int x ∧ 0 ≤ x ∧ x < n) :=
  EN.lift (k := 0 + 1) (en_callX (n := 0) (f := fDraw) (ean_cons (ed_var h).n (ean_cons hn.n ean_nil)) (fun ds ⟨d1, ds1, e1, e2, d2, ds2, e3, e4, e5⟩ => ⟨n, by rw [e1, e2, e3, e4, e5], n0, n1, fun x x0 x1 => ⟨x, rfl, x0, x1⟩⟩) (by omega)) (by omega)
/-- pick(S, es) -/
theorem en_pickL {W : Wld T} {S lw lc : Addr} {cells : List Int} {E : XK} {env : Env'} {i c : Nat} {te : TE} {es : List D} (h : env[i]? = some (.dat (.raw (.ref S)))) (hn : ED (WDr W S lw lc cells) te env (.lst es)) (n0 : 0 < es.length) (n1 : es.length ≤ 100000) (hc : c + 1 ≤ CAP) :
    EN (WDr W S lw lc cells) (tCall (SpSx T 1 fPick) [] E (tCons (tVar i) (tCons te tNil))) env c 1 (fun d => d ∈ es) :=
  EN.lift (k := 0 + 1) (en_callX (n := 0) (f := fPick) (ean_cons (ed_var h).n (ean_cons hn.n ean_nil)) (fun ds ⟨d1, ds1, e1, e2, d2, ds2, e3, e4, e5⟩ => ⟨es, by rw [e1, e2, e3, e4, e5], n0, n1, fun x hx => hx⟩) (by omega)) (by omega)
end
end Fx

set_option Elab.async false
set_option linter.all false
set_option maxRecDepth 100000
set_option maxHeartbeats 4000000
/-! A def that is called where no repr is under way; fresh lists by displays. -/
namespace Fx
open PySem PySem.Spec PyProof.Rows L2 LamX C8
/-- a def of the module, run where no guard stands -/
structure RunG (P : Program) (w : World) (K : PySem.W.Frag) (mg : Str → Option Value) (base : Heap) (k : Nat) (x : Str) (ps : List Str) (sp : Sp) : Prop where
  ex : ∃ (f : Addr) (fd : FuncData), mg x = some (.ref f) ∧ Binds K fd ps [] ∧ ∀ (A : Around) (outer : List Env) (s : Shared) (H : Hp) (args : Args) (us : List Value) (vs : List V) (Q : VK) (E : XK), Room k A → A.guards = some [] → Env0 P w K mg base A outer s H →
    BindsTo s fd args (ps.zip us) → Vals vs us → vs.length = ps.length → sp vs H Q E → codeAny (model P w) A (.call (.ref f) args) (CR C8.CX0 outer P w H s Q E) s
theorem runG_of {P : Program} {w : World} {K : PySem.W.Frag} {mg : Str → Option Value} {base : Heap} {x : Str} {st : Stmt} {N ps : List Str} {k : Nat} {sp : Sp} {cdv : Value} (F : Df K mg x st ps cdv) (S : scC N ps (fnScope st) = true)
    (hbody : ∀ (a : Addr) (A : Around) (outer : List Env) (s : Shared) (H : Hp) (E : XK), Room k (A.deeper (envOfC x (fnScope st) s.heap.objs.size a cdv)) → (A.deeper (envOfC x (fnScope st) s.heap.objs.size a cdv)).guards = some [] →
      ∃ t, PSs (cxOf C8.CX0 P w K mg base N x (fnScope st) a cdv A outer s H E).nox (fnBody st) t ∧ ∀ vs Q, sp vs H Q E → t { nx := fun _ H' => Q .non H', rt := Q } (L2.start N vs) H) : RunG P w K mg base (k + 1) x ps sp := by
  obtain ⟨f, oc, od, kV, doc, pm, an, ct, osl, lk, hcd, hm, kp, hb⟩ := F.ex
  refine ⟨f, _, hm, hb, fun A outer s H args us vs Q E hr hg e0 hb' r hl hsp => run_ofS (N := N) lk hcd (fnScope_by S) hr e0 hb' r hl fun hr' => ?_⟩
  obtain ⟨t, ht, q⟩ := hbody f A outer s H E hr' hg
  exact ⟨t, ht.nox, q vs Q hsp⟩
section
variable {T : List (Addr × Str)} {W : Wld T} {c k : Nat}
theorem mn_lstD {ta : TA} {env : Env'} {ds : List D} (h : EA W ta env ds) (hz : ds.length ≤ 100000) : MN W (tLst ta) env c 0 (fun es => es = ds) := fun G0 H0 σ G H A Q q =>
  h c G0 H0 σ G H A _ fun vs G1 H1 s1 g1 j1 r1 => ⟨by rw [r1.len]; exact Nat.le_trans hz (by decide), fun p hp =>
    q p vs ds G1 _ (s1.trans (stp_upd Stp.refl (nf_none hp) (noTb_lst _))) (gok_upd g1 (g1.none hp)) (J_new j1 hp) upd_same (g1.none hp) (s1.dom p (nf_none hp)) (fun m => W.mtr j1 m (nf_none hp)) r1 rfl⟩
end
end Fx

set_option Elab.async false
set_option linter.all false
set_option maxRecDepth 100000
set_option maxHeartbeats 4000000
/-! The end of a law whose def runs where no guard stands; classes of errors; defs by keywords. -/
namespace Fx
open PySem PySem.Spec PyProof.Rows L2 LamX C8
/-- what the calculus sees at the law's call: the tables, and the script where the module does not know it -/
def seen (K : PySem.W.Frag) (ts : List Addr) (a : Addr) (o : Obj) (xs : List V) : Hp := fun b =>
  if b ∈ ts then some (.tbl #[]) else if b = a ∧ K.lookup a = none then some (.frz o (.lst xs)) else none
section
variable {K : PySem.W.Frag} {ts : List Addr} {a b : Addr} {o : Obj} {xs : List V} {u : HO}
theorem seen_t (h : b ∈ ts) : seen K ts a o xs b = some (.tbl #[]) := by unfold seen; exact if_pos h
theorem seen_a (h : a ∉ ts) (n : K.lookup a = none) : seen K ts a o xs a = some (.frz o (.lst xs)) := by unfold seen; rw [if_neg h, if_pos ⟨rfl, n⟩]
theorem seen_why (h : seen K ts a o xs b = some u) : (b ∈ ts ∧ u = .tbl #[]) ∨ (b ∉ ts ∧ b = a ∧ K.lookup a = none ∧ u = .frz o (.lst xs)) := by
  unfold seen at h
  by_cases h1 : b ∈ ts
  · rw [if_pos h1] at h
    exact .inl ⟨h1, (Option.some.inj h).symm⟩
  · rw [if_neg h1] at h
    by_cases h2 : b = a ∧ K.lookup a = none
    · rw [if_pos h2] at h
      exact .inr ⟨h1, h2.1, h2.2, (Option.some.inj h).symm⟩
    · rw [if_neg h2] at h
      cases h
end
/-- what stands at the law's call -/
structure Stands (K : PySem.W.Frag) (mg mb : Str → Option Value) (a : Addr) (vs : List Value) (ns : List Int) (cs : List (Addr × Addr)) (s : Shared) : Prop where
  known : K.In s.heap
  main : s.heap.Ns mainGlobals mg
  bns : s.heap.Ns builtinsNs mb
  boot : ∀ x : Str, x ≠ "__name__" → mb x = bootBuiltins x
  free : s.heap.NoLimit
  still : s.gens = #[]
  bare : ∀ p ∈ cs, s.heap.get? p.2 = some { cls := .none, data := .fields #[] }
  apart : ∀ p ∈ cs, K.lookup p.2 = none
  code : ∀ p ∈ cs, PySem.W.CodeHd s.heap p.1 p.2
  mod : ∃ (m : Addr) (om : Obj), mg "__builtins__" = some (.ref m) ∧ m ≠ builtinsNs ∧ s.heap.get? m = some om ∧ om.cls = .type "module" ∧ om.dict = some builtinsNs ∧ om.data = .plain
  script : s.heap.get? a = some { cls := .type "list", data := .seq vs.toArray }
  whole : IntsAre vs ns
  short : ns.length ≤ sizeLine
section
variable {P : Program} {w : World} {K : PySem.W.Frag} {mg mb : Str → Option Value} {a : Addr} {vs : List Value} {ns : List Int} {cs : List (Addr × Addr)} {s : Shared}
/-- the heap seen -/
abbrev hpS (K : PySem.W.Frag) (a : Addr) (vs : List Value) (ns : List Int) (cs : List (Addr × Addr)) : Hp := seen K (cs.map Prod.snd) a { cls := .type "list", data := .seq vs.toArray } (ns.map V.int)
namespace Stands
variable (S : Stands K mg mb a vs ns cs s)
include S
theorem tab {b : Addr} (h : b ∈ cs.map Prod.snd) : s.heap.get? b = some { cls := .none, data := .fields #[] } := by
  obtain ⟨p, hp, rfl⟩ := List.mem_map.mp h
  exact S.bare p hp
theorem ne_tab : a ∉ cs.map Prod.snd := fun h => by
  have e := (S.tab h).symm.trans S.script
  cases Option.some.inj e
/-- an object of another kind is not seen -/
theorem hid {b : Addr} {o : Obj} (e : s.heap.get? b = some o) (h1 : ∀ its n, o.data ≠ .seq its n) (h2 : o.data ≠ .fields #[]) : hpS K a vs ns cs b = none := by
  cases q : hpS K a vs ns cs b with
  | none => rfl
  | some u =>
    rcases seen_why q with ⟨hb, _⟩ | ⟨_, rfl, _⟩
    · rw [S.tab hb] at e
      exact absurd (congrArg Obj.data (Option.some.inj e)).symm h2
    · rw [S.script] at e
      exact absurd (congrArg Obj.data (Option.some.inj e)).symm (h1 _ _)
theorem below {b : Addr} {o : Obj} (e : s.heap.get? b = some o) (h1 : ∀ its n, o.data ≠ .seq its n) (h2 : o.data ≠ .fields #[]) : (hidT s.heap (hpS K a vs ns cs)).get? b = some o := hidT_get e (S.hid e h1 h2)
theorem belowNs {b : Addr} {m : Str → Option Value} (h : s.heap.Ns b m) : (hidT s.heap (hpS K a vs ns cs)).Ns b m := by
  obtain ⟨o, es, ep, e, hd, r⟩ := h
  exact ⟨o, es, ep, S.below e (fun its n z => by rw [hd] at z; cases z) (fun z => by rw [hd] at z; cases z), hd, r⟩
theorem hok : HOk P w (hpS K a vs ns cs) s.heap := fun b u q => by
  rcases seen_why q with ⟨hb, rfl⟩ | ⟨_, rfl, _, rfl⟩
  · exact S.tab hb
  · exact ⟨S.script, by rw [List.length_map]; exact S.short, vs, _, vals_ints S.whole, S.script⟩
theorem knownB : K.In (hidT s.heap (hpS K a vs ns cs)) := fun b o e => by
  refine hidT_get (S.known b o e) ?_
  cases q : hpS K a vs ns cs b with
  | none => rfl
  | some u =>
    rcases seen_why q with ⟨hb, _⟩ | ⟨_, rfl, hn, _⟩
    · obtain ⟨p, hp, rfl⟩ := List.mem_map.mp hb
      exact absurd ((S.apart p hp).symm.trans e) (by simp)
    · exact absurd (hn.symm.trans e) (by simp)
theorem modB : L2.Mod K mg (hidT s.heap (hpS K a vs ns cs)) where
  kin := S.knownB
  glob := S.belowNs S.main
  blt := ⟨mb, S.belowNs S.bns, S.boot⟩
  nolimit := by
    obtain ⟨mc, q1, q2⟩ := S.free
    exact ⟨mc, S.belowNs q1, q2⟩
theorem env : Env0 P w K mg (hidT s.heap (hpS K a vs ns cs)) callerA [] s (hpS K a vs ns cs) where
  frames := rfl
  mod := S.modB
  bs := fun _ _ e => of_hidT e
  bsz := by rw [hidT_size]; exact Nat.le_refl _
  funs := trivial
  frf := by
    intro b hb
    cases hb
  hok := S.hok
  bare := .of_eq S.still
theorem sq : SqL K (hpS K a vs ns cs) a (ns.map V.int) := by
  cases q : K.lookup a with
  | none => exact .inl (.inr ⟨_, seen_a S.ne_tab q⟩)
  | some o =>
    have eo : o = { cls := .type "list", data := .seq vs.toArray } := Option.some.inj ((S.known a o q).symm.trans S.script)
    subst eo
    refine .inr ⟨_, vs.toArray, _, q, rfl, rfl, rfl, ?_, by simpa using vals_ints S.whole⟩
    rw [List.size_toArray, S.whole.length]
    exact S.short
theorem tabB {p : Addr × Addr} (hp : p ∈ cs) : TabB (hidT s.heap (hpS K a vs ns cs)) mg p.1 p.2 where
  code := by
    obtain ⟨o, us, file, tf, flags, tg, inF, text, tt, e1, r1, r2, r3, rest⟩ := S.code p hp
    refine ⟨o, us, file, tf, flags, tg, inF, text, tt, S.below e1 (fun its n z => ?_) (fun z => ?_), r1, r2, r3, rest⟩
    · cases r2.symm.trans z
    · cases r2.symm.trans z
      simp at r3
  bm := by
    obtain ⟨m, om, e1, e2, e3, e4, e5, e6⟩ := S.mod
    refine ⟨m, om, e1, e2, fun z => ?_, fun z => ?_, S.below e3 (fun its n z => ?_) (fun z => ?_), e4, e5, e6⟩
    · obtain ⟨o, es, ep, e, hd, _⟩ := S.main
      subst z
      have eo := Option.some.inj (e.symm.trans e3)
      subst eo
      cases hd.symm.trans e6
    · subst z
      have eo := Option.some.inj ((S.bare p hp).symm.trans e3)
      subst eo
      cases e6
    · cases e6.symm.trans z
    · cases e6.symm.trans z
  gP := fun z => by
    obtain ⟨o, es, ep, e, hd, _⟩ := S.main
    rw [z] at e
    have eo := Option.some.inj ((S.bare p hp).symm.trans e)
    subst eo
    cases hd
/-- behind the call: all is as it was -/
theorem behind {H' : Hp} {h' : Heap} (un : Un (frs []) [] (hpS K a vs ns cs) H' s.heap h') (hok' : HOk P w H' h') : OldK s.heap h' := by
  have key : ∀ b o, s.heap.get? b = some o → (h'.get? b = some o) ∨ (b ∈ cs.map Prod.snd ∧ ∃ more : Array Value, h'.get? b = some { cls := .none, data := .fields more }) := by
    intro b o e
    cases q : hpS K a vs ns cs b with
    | none => exact .inl (un.keep b o e q List.not_mem_nil List.not_mem_nil)
    | some u =>
      rcases seen_why q with ⟨hb, rfl⟩ | ⟨_, rfl, _, rfl⟩
      · obtain ⟨more, z⟩ := un.tbls b _ q
        exact .inr ⟨hb, _, hok' b _ z⟩
      · obtain ⟨z, _⟩ := hok' b _ (un.frzs b _ _ q)
        rw [S.script] at e
        rw [← Option.some.inj e]
        exact .inl z
  constructor
  · intro b o e
    rcases key b o e with h | ⟨hb, more, h⟩
    · exact .inl h
    · obtain ⟨p, hp, rfl⟩ := List.mem_map.mp hb
      have eo := Option.some.inj ((S.bare p hp).symm.trans e)
      subst eo
      exact .inr (.inl ⟨((S.code p hp).tab (S.bare p hp)).isCodeTable, rfl, #[], more, rfl, by rw [Array.empty_append]; exact h⟩)
  · intro b o e
    rcases key b o e with h | ⟨_, _, h⟩
    · exact ⟨_, h⟩
    · exact ⟨_, h⟩
/-- the law's call -/
theorem call {k : Nat} {fa : Addr} {x y : Str} {sp : Sp} (hr : Room k callerA) (hm : mg x = some (.ref fa)) (F : ∀ base : Heap, K.In base → base.Ns mainGlobals mg → (∀ p ∈ cs, TabB base mg p.1 p.2) → RunG P w K mg base k x [y] sp)
    (hsp : ∀ H : Hp, (∀ p ∈ cs, H p.2 = some (.tbl #[])) → SqL K H a (ns.map V.int) → sp [.ref a] H (fun v _ => v = .bl true) fun _ _ _ => False) :
    codeAny (model P w) callerA (.call (.ref fa) ⟨[.ref a], []⟩) (fun r s' => r = .ok (.ret (.bool true)) ∧ OldK s.heap s'.heap ∧ s'.os = s.os ∧ AllBare s'.gens) s := by
  obtain ⟨f, fd, hm', hb, run⟩ := (F _ S.knownB (S.belowNs S.main) fun p hp => S.tabB hp).ex
  have ef : f = fa := by
    have e := hm'.symm.trans hm
    cases e
    rfl
  subst ef
  have bind : BindsTo s fd ⟨[.ref a], []⟩ ([y].zip [.ref a]) := hb s [.ref a] S.known rfl
  have go := run callerA [] s (hpS K a vs ns cs) _ _ [.ref a] (fun v _ => v = .bl true) (fun _ _ _ => False) hr rfl S.env bind (.cons rfl .nil) rfl (hsp _ (fun p hp => seen_t (List.mem_map_of_mem hp)) S.sq)
  refine codeAny_mono go fun r s' h => ?_
  match r, h with
  | .ok (.ret u), ⟨v, H', hos, hbare, un, hok', rv, (q : v = .bl true)⟩ =>
    subst q
    have eu : u = Value.bool true := rv
    subst eu
    exact ⟨rfl, S.behind un hok', hos, hbare⟩
end Stands
end
/-- what is to be shown of the law, at the head's heap h -/
def LawG (l : PySem.W.OpenLaw) (w : World) (K : PySem.W.Frag) (k n : Nat) (x y : Str) (mg : Str → Option Value) (h : Heap) : Prop :=
  ∃ (cs : List (Addr × Addr)) (sp : Sp), (∀ p ∈ cs, h.get? p.2 = some { cls := .none, data := .fields #[] } ∧ K.lookup p.2 = none ∧ PySem.W.CodeHd h p.1 p.2) ∧
    (∀ (H : Hp) (a : Addr) (ns : List Int), ns.length ≤ n → (∀ p ∈ cs, H p.2 = some (.tbl #[])) → SqL K H a (ns.map V.int) → sp [.ref a] H (fun v _ => v = .bl true) fun _ _ _ => False) ∧
    ∀ base : Heap, K.In base → base.Ns mainGlobals mg → (∀ p ∈ cs, TabB base mg p.1 p.2) → RunG l.prog w K mg base k x [y] sp
theorem walk_G {l : PySem.W.OpenLaw} {n k : Nat} {q : Program} {loose : List Str} {XP : (Str → Option Value) → Heap → Prop} {YP : World → Heap → Prop} {d : DefRec} {y : Str} (h1 : l.most = some n) (h2 : n ≤ sizeLine) (h3 : d.params.defaults = []) (hr : Room k callerA)
    (F : ∀ (w : World) (mg : Str → Option Value) (fa : Addr) (h : Heap), YP w h → h.Ns mainGlobals mg → mg d.name = some (.ref fa) → ∃ K : PySem.W.Frag, K.In h ∧ LawG l w K k n d.name y mg h) : PySem.W.WalkO q loose XP YP l.row.toRowW d [] (fun f vs => PySem.call f vs) := by
  apply Att.attach_callB h1 h3
  intro w s0 s mg mb fa o pm cd doc a vs ns G Y _ _ _ hm hscript hints hlen _ hgens
  obtain ⟨K, hK, cs, sp, ht, hsp, run⟩ := F w mg fa _ Y G.T.g hm
  have S : Stands K mg mb a vs ns cs s := ⟨hK, G.T.g, G.T.b, G.T.builtins, G.T.nolimit, hgens, fun p hp => (ht p hp).1, fun p hp => (ht p hp).2.1, fun p hp => (ht p hp).2.2, G.T.bmain, hscript, hints, Nat.le_trans hlen h2⟩
  exact S.call hr hm run fun H hH hS => hsp H a ns hlen hH hS
/-! ### facts of the head -/
section
variable {K : PySem.W.Frag} {h : Heap} {mg : Str → Option Value}
theorem xcl_of {x : Str} (g : mg x = some (.ref (He.ga K x))) (c : (He.Fa.exc x).ok K = true) : XCl K mg x (He.ga K x) := by
  obtain ⟨h1, h2, h3, h4⟩ := He.exc_ok c
  exact ⟨g, h1, h2, h3, h4⟩
/-- that isinstance may be asked of an error of class C -/
def excB (K : PySem.W.Frag) (C : Addr) : Bool :=
  decide (PySem.W.findIn K (.ref C) "__getattribute__" = some (some (.builtin "BaseException.__getattribute__"))) &&
  (decide (PySem.W.findIn K (.ref C) "__getattr__" = some none) &&
  (decide (PySem.W.subIn K (.ref C) (.type "BaseException") = some true) &&
  (PySem.W.hasDictIn K C &&
  (decide (PySem.W.findIn K (.ref C) "__class__" = some (some (.builtin "object.__class__"))) &&
  (decide (PySem.W.specialIn K (.builtin "object.__class__") "__get__" = some (some (.builtin "getset_descriptor.__get__"))) &&
  (decide (PySem.W.takesIn K (.builtin "object.__class__") = some true) &&
  decide (PySem.W.mroIn K C (.type "object") = some true)))))))
theorem excB_ok {C : Addr} (c : excB K C = true) : ExcC K C := by
  obtain ⟨c1, c⟩ := He.ba c
  obtain ⟨c2, c⟩ := He.ba c
  obtain ⟨c3, c⟩ := He.ba c
  obtain ⟨c4, c⟩ := He.ba c
  obtain ⟨c5, c⟩ := He.ba c
  obtain ⟨c6, c⟩ := He.ba c
  obtain ⟨c7, c8⟩ := He.ba c
  exact ⟨of_decide_eq_true c1, of_decide_eq_true c2, of_decide_eq_true c3, c4, of_decide_eq_true c5, of_decide_eq_true c6, of_decide_eq_true c7, of_decide_eq_true c8⟩
theorem kit_self {C : Addr} : PySem.W.kitOne K (.ref C) (.ref C) = some true := by
  unfold PySem.W.kitOne
  rw [beq_self_eq_true]
  rfl
/-- what is asked of an error's class C behind the class E -/
def isB (K : PySem.W.Frag) (E C : Str) : Bool := decide (PySem.W.exmOne K (.ref (He.ga K C)) (.ref (He.ga K E)) = some true) && excB K (He.ga K C)
theorem isB_ok {E C : Str} (c : isB K E C = true) : PySem.W.exmOne K (.ref (He.ga K C)) (.ref (He.ga K E)) = some true ∧ ExcC K (He.ga K C) ∧ PySem.W.kitOne K (.ref (He.ga K C)) (.ref (He.ga K C)) = some true := by
  obtain ⟨c1, c2⟩ := He.ba c
  exact ⟨of_decide_eq_true c1, excB_ok c2, kit_self⟩
/-- a def that may be called by keywords -/
theorem dfK_of {x : Str} {st : Stmt} {ps : List Str} {f : Addr} {fd : FuncData} (F : FunD K x x (fnArgs st) (fnBody st) (fnScope st) [] [] f fd) (hm : mg x = some (.ref f))
    (hb : ∀ (kV doc pm : Value) (an : Option Addr) (cdv ct : Value) (us : List Value), us.length = ps.length → bindArgs (PySem.W.fnOf x x (fnArgs st) (fnBody st) (fnScope st) .none kV doc pm an cdv ct) ⟨us, []⟩ = pure (ps.zip us))
    (hb2 : ∀ (kV doc pm : Value) (an : Option Addr) (cdv ct : Value) (us : List Value), us.length = ps.length → bindArgs (PySem.W.fnOf x x (fnArgs st) (fnBody st) (fnScope st) .none kV doc pm an cdv ct) ⟨[], ps.reverse.zip us⟩ = pure (ps.zip us.reverse)) : DfK K mg x st ps fd.code := by
  obtain ⟨oc, od, dV, kV, doc, pm, an, cdv, ct, osl, rfl, lk, hcd, hd, _⟩ := F.ex
  have e : dV = .none := by
    rcases hd with ⟨_, e⟩ | ⟨n, _⟩
    · exact e
    · exact absurd rfl n
  subst e
  exact ⟨f, oc, od, kV, doc, pm, an, ct, osl, lk, hcd, hm, F.kp, .all fun us hl => hb kV doc pm an cdv ct us hl, fun us hl => hb2 kV doc pm an cdv ct us hl⟩
end
end Fx

set_option Elab.async false
set_option linter.all false
set_option maxRecDepth 100000
set_option maxHeartbeats 4000000
/-! An error's class whose __init__ says super().__init__(a text), then keeps what it is told in a field. -/
namespace Fx
open PySem PySem.Spec PyProof.Rows L2 LamX
/-- the wrapper of ValueError.__init__, called -/
theorem call_mwVE {P : Program} {w : World} {A : Around} {E : Value → Shared → Prop} {K : PySem.W.Frag} {C u e t0 : Addr} {rest : List Value} {Q : Value → Shared → Prop} {h : Heap} {g : Array GenState} {d : Drawn} {t : Nat} {os : OsState}
    (T : OexC K C) (X : K.In h) (hu : h.get? u = some (PySem.W.kxs_mw "ValueError.__init__" e)) (he : h.get? e = some (PySem.HandSPX.excO C t0)) (hz : rest.length ≤ sizeLine)
    (hq : ∀ h' t1, (∀ b o, b ≠ e → h.get? b = some o → h'.get? b = some o) → h'.get? e = some (PySem.HandSPX.excO C t1) → Q .none ⟨h', g, d, t, os⟩) :
    wpAny (model P w) A (call (.ref u) rest) Q E ⟨h, g, d, t, os⟩ := by
  obtain ⟨nm, q, N, bs, bm, sn, sub, ab, col, dd, k0, k1, k2, k3, k5, hC, hbm⟩ := T.cls
  have hC' := X _ _ hC
  apply wpAny_call
  apply codeAny_of_tree
  change wpAny _ A.in1 (callAny (.ref u) (Args.mk rest [])) _ _ _
  simp only [callAny]
  apply wpAny_bind
  refine wpAny_load hu ?_
  simp only [PySem.W.kxs_mw, show (Value.type "method-wrapper" == Value.type "method") = false by decide, show (Value.type "method-wrapper" == Value.type "builtin_function_or_method") = false by decide, show (Value.type "method-wrapper" == Value.type "method-wrapper") = true by decide, Bool.false_or]
  rw [if_pos trivial]
  apply PySem.W.KFB.if_so (by decide)
  apply wpAny_bind
  refine PySem.W.check_bound_init PySem.F.excBase_ValueError.toExcCallFacts hC' he rfl ?_
  apply wpAny_pure
  refine And.intro (PySem.plainId_quiet PySem.F.excBase_ValueError.init.plain _) ?_
  refine codeAny_builtin PySem.F.excBase_ValueError.initEntry ?_
  exact PySem.W.exc_init_tree (cls := .ref C) (t0 := t0) (dv := none) (c2 := .none) (c3 := .none) (b4 := .bool false) he hz fun h' k e' _ => hq h' _ k e'
/-- what the head says of such a class -/
structure SupIn (K : PySem.W.Frag) (P : Program) (x : Str) (C fI cc cda : Addr) (m : Stmt) : Prop where
  fn : ∃ (oc : Value) (od : Option Addr) (kV doc pm : Value) (an : Option Addr) (ct : Value) (osl : Array (Option Value)),
    K.lookup fI = some ⟨oc, od, .func (PySem.W.ksFn "__init__" (x ++ ".__init__") (C8.fnArgs m) (C8.fnBody m) (C8.fnScope m) .none kV doc pm an (.ref cda) ct cc), osl⟩
  cdr : PySem.W.codeIn K (.ref cda) (x ++ ".__init__") = true
  file : ∃ (ccl : Value) (cdd : Option Addr) (vs : Array Value) (ccs : Array (Option Value)) (file : Str) (tf : Tok), K.lookup cda = some ⟨ccl, cdd, .fields vs, ccs⟩ ∧ vs[2]? = some (.str file tf) ∧ ((P.main.file : Str) == file) = true
  cell : ∃ (cl : Value) (cld : Option Addr) (csl : Array (Option Value)), K.lookup cc = some ⟨cl, cld, .cell (some (.ref C)), csl⟩
  cls : OexC K C
  sub : PySem.W.mroIn K C (.ref C) = some true
  sup : PySem.W.nsIn K mainGlobals "super" = some none
  opq : PySem.W.nsIn K cStatics "thirdparty.any" = some none
  ini : PySem.W.ks_superIn K C C "__init__" = some (some (.builtin "ValueError.__init__"))
  ve : PySem.W.subIn K (.ref C) (.type "ValueError") = some true
/-- the promise of such an __init__ -/
def SpInit (C : Addr) (f : Str) : Sp := fun vs H Q _ => ∃ (a : Addr) (v : V), vs = [.ref a, v] ∧ H a = some (exo a C none) ∧ ∀ dx, H dx = none → dx ≠ a → Q .non (upd (upd H dx (exd dx [(f, v)])) a (exo a C (some dx)))
section
variable {P : Program} {w : World} {K : PySem.W.Frag} {mg : Str → Option Value} {base : Heap} {CX : CXT} {x pr f msg : Str} {C fI cc cda : Addr} {m : Stmt} {i : Nat} {ar : Arg} {p0 p1 p2 p3 p4 p5 p6 p7 p8 p9 : Pos} {k : Nat}
theorem sup_ok (S : SupIn K P x C fI cc cda m) (hsc : NdefX.nscB ["self", pr, "__class__"] ["self", pr] ["__class__"] (C8.fnScope m) = true) (hks : (C8.fnScope m).names.lookup ("super" : Str) = some .globalImplicit)
    (har : ((C8.fnArgs m).posonlyargs ++ (C8.fnArgs m).args).head? = some ar) (har2 : ar.arg = "self") (htop : (P.main.scope.names.lookup ("super" : Str)).isSome = false) (hno : PySem.W.findIn K (.ref C) f = some none)
    (hd1 : (pr == ("__debug__" : Str)) = false) (hd2 : (pr == ("__classdict__" : Str)) = false)
    (hbody : C8.fnBody m = [.Expr (.Call (.Attribute (.Call (.Name "super" p0) [] [] p1) "__init__" p2) [.Constant (.str msg) i p3] [] p4) p5, .Assign [.Attribute (.Name "self" p6) f p7] (.Name pr p8) p9])
    (he : ∀ L, ∃ pl, eval (.Call (.Attribute (.Call (.Name "super" p0) [] [] p1) "__init__" p2) [.Constant (.str msg) i p3] [] p4) (PySem.W.ksEnv (x ++ ".__init__") (C8.fnScope m) L fI (.ref cda) cc) = (do
      let ov ← attributeBase (.Call (.Name "super" p0) [] [] p1) "__init__" (PySem.W.ksEnv (x ++ ".__init__") (C8.fnScope m) L fI (.ref cda) cc) (eval (.Call (.Name "super" p0) [] [] p1) (PySem.W.ksEnv (x ++ ".__init__") (C8.fnScope m) L fI (.ref cda) cc))
      standAt p2.atName
      let (g, first) ← holding [ov] (getMethod ov "__init__" pl)
      callWith p4 g first (backTo p4 (starEach [.Constant (.str msg) i p3] (PySem.W.ksEnv (x ++ ".__init__") (C8.fnScope m) L fI (.ref cda) cc))) []))
    (hin : ∀ L, interactive (PySem.W.ksEnv (x ++ ".__init__") (C8.fnScope m) L fI (.ref cda) cc) = false)
    (hs1 : ∀ L, swapsWith (.Call (.Attribute (.Call (.Name "super" p0) [] [] p1) "__init__" p2) [.Constant (.str msg) i p3] [] p4) none p5.line (PySem.W.ksEnv (x ++ ".__init__") (C8.fnScope m) L fI (.ref cda) cc) = pure false)
    (hs2 : ∀ L, swapsWith (.Name pr p8) (some (.Attribute (.Name "self" p6) f p7)) p9.line (PySem.W.ksEnv (x ++ ".__init__") (C8.fnScope m) L fI (.ref cda) cc) = pure false)
    (hbind : ∀ (kV doc pm : Value) (an : Option Addr) (ct : Value) (us : List Value), us.length = 2 → bindArgs (PySem.W.ksFn "__init__" (x ++ ".__init__") (C8.fnArgs m) (C8.fnBody m) (C8.fnScope m) .none kV doc pm an (.ref cda) ct cc) ⟨us, []⟩ = pure ((["self", pr] : List Str).zip us)) :
    ∃ fd : FuncData, FnOk P w K mg base CX (k + 1) fI fd ["self", pr] (SpInit C f) ∧ Binds K fd ["self", pr] [] := by
  obtain ⟨oc, od, kV, doc, pm, an, ct, osl, hf⟩ := S.fn
  refine ⟨_, ⟨fun vs H Q E ⟨a, v, e, _⟩ => by rw [e]; rfl, fun A outer s H args us vs Q E hr e0 hb r hsp => ?_⟩, .all fun us hl => hbind kV doc pm an ct us hl⟩
  obtain ⟨a, v, rfl, ha, q⟩ := hsp
  have lim : s.heap.NoLimit := e0.mod.nolimit.keeps fun b o e => (e0.bs b o e).1
  have XK : K.In s.heap := fun b o e => (e0.bs b o (e0.mod.kin b o e)).1
  have fresh : ∀ {b o}, K.lookup b = some o → H b = none := fun {b o} e => (e0.bs b o (e0.mod.kin b o e)).2
  cases r with
  | @cons _ ua _ us1 ra rr =>
  cases rr with
  | @cons _ uv _ us2 rv rn =>
  cases rn
  have ea : ua = Value.ref a := ra
  subst ea
  have SS := NdefX.nscope_by hsc
  obtain ⟨cl, cld, csl, hcc⟩ := S.cell
  obtain ⟨ccl, cdd, fvs, ccs, file, tf, hcd, hv2, hfile⟩ := S.file
  obtain ⟨cdC, hcls, hmro⟩ : ∃ cd, PySem.W.clsIn K C = some cd ∧ PySem.W.alongIn K "__init__" ((cd.mro.dropWhile (· != .ref C)).drop 1) = some (some (.builtin "ValueError.__init__")) := by
    have z := S.ini
    unfold PySem.W.ks_superIn at z
    cases e : PySem.W.clsIn K C with
    | none => rw [e] at z; cases z
    | some cd => rw [e] at z; exact ⟨cd, rfl, z⟩
  obtain ⟨oC, hC1, hC2⟩ : ∃ o : Obj, K.lookup C = some o ∧ o.data = .cls cdC := by
    unfold PySem.W.clsIn at hcls
    split at hcls
    · rename_i c d cd' sl ho
      cases hcls
      exact ⟨_, ho, rfl⟩
    · cases hcls
  have aC : a ≠ C := fun z => by
    rw [z, fresh hC1] at ha
    cases ha
  let F : NdefX.NF := ⟨"__init__", x ++ ".__init__", C8.fnArgs m, C8.fnBody m, C8.fnScope m, [("__class__", cc)], cda⟩
  have CA : NdefX.CellsAt F.cl ["__class__"] [some (.ref C)] s.heap H := by
    have only : ∀ y c, F.cl.lookup y = some c → y = "__class__" ∧ c = cc := fun y c e => by
      have e' : (if y = ("__class__" : Str) then some cc else none) = some c := by
        rw [← e]
        show _ = List.lookup y [("__class__", cc)]
        by_cases h : y = "__class__"
        · rw [if_pos h, h]; simp [List.lookup]
        · have h2 : (y == ("__class__" : Str)) = false := by simpa using h
          rw [if_neg h]; simp [List.lookup, h2]
      by_cases h : y = "__class__"
      · rw [if_pos h] at e'; exact ⟨h, (Option.some.inj e').symm⟩
      · rw [if_neg h] at e'; cases e'
    refine ⟨rfl, fun y c e => ?_, fun y z c e1 e2 => ?_, fun j y e => ?_⟩
    · obtain ⟨_, rfl⟩ := only y c e
      exact ⟨fresh hcc, _, ⟨_, XK _ _ hcc, rfl⟩⟩
    · rw [(only y c e1).1, (only z c e2).1]
    · match j, e with
      | 0, e =>
        cases e
        refine ⟨cc, rfl, fun v e => ?_⟩
        cases e
        exact ⟨.ref C, rfl, ⟨_, XK _ _ hcc, rfl⟩⟩
  refine PySem.ks_codeAny_call_defAt (binds := (["self", pr] : List Str).zip [.ref a, uv]) hr.depth (XK _ _ hf) rfl lim (PySem.W.codeRec_of XK S.cdr) rfl hb SS.nocell (fun y hy => ?_) (fun h1 hns kp => ?_) SS.co SS.gen SS.kind
  · exact SS.par _ (List.of_mem_zip (show (y.1, y.2) ∈ (["self", pr] : List Str).zip [.ref a, uv] from hy)).1
  have I := NdefX.inv_startN (CX := CX) (E := E) (f := fI) (F := F) (tk := s.toks + 2) SS hr.hd e0 (vs := [.ref a, v]) rfl (.cons rfl (.cons rv .nil)) CA hns kp
  change _root_.PySem.wpAt _ _ (.func (C8.fnBody m) (PySem.W.ksEnv (x ++ ".__init__") (C8.fnScope m) s.heap.objs.size fI (.ref cda) cc)) (execs (C8.fnBody m) (PySem.W.ksEnv (x ++ ".__init__") (C8.fnScope m) s.heap.objs.size fI (.ref cda) cc)) _ _ _
  rw [hbody]
  obtain ⟨pl, he⟩ := he s.heap.objs.size
  have XK1 : K.In h1 := fun b o e => kp b o (XK b o e)
  obtain ⟨tu, hx⟩ := exo_at I.hok ha
  refine PySem.ks_wpAt_execs_cons (PySem.ks_wpAt_Expr_any (PySem.ks_wpAt_MethodCall (pl := pl) ?_ he) (hin _) (hs1 _))
  refine PySem.ks_wpAt_super_base hks (SS.frk _ List.mem_cons_self) rfl rfl (XK1 _ _ hf) rfl har rfl (XK1 _ _ hcd) rfl hv2 hfile htop ?_
  refine PySem.W.ks_loadName_global SS.kind hks ?_
  obtain ⟨mb, hmb, hbb⟩ := e0.mod.blt
  have kb : ∀ b o, base.get? b = some o → h1.get? b = some o := fun b o e => kp b o (e0.bs b o e).1
  refine PySem.Calls.loadGlobal_builtin (e0.mod.glob.keeps kb) (PySem.W.mg_none_of e0.mod.kin e0.mod.glob S.sup) (hmb.keeps kb) ((hbb _ (by decide +kernel)).trans (by decide +kernel)) ⟨rfl, ?_⟩
  refine wpAny_loadName_free SS.kind (SS.frk _ List.mem_cons_self) rfl ⟨_, XK1 _ _ hcc, rfl⟩ ?_
  rw [har2]
  refine wpAny_loadName_local SS.kind (SS.par _ List.mem_cons_self) hns (v := .ref a) ?_ ?_
  · exact NdefX.zip_look (i := 0) (SS.nd.sublist (List.take_sublist 2 (["self", pr, "__class__"] : List Str))) rfl rfl
  refine PySem.ks_wpAny_isType_cls (XK1 _ _ hC1) hC2 ⟨rfl, ?_⟩
  refine PySem.ks_wpAny_call_super (XK1 _ _ hC1) hC2 hx rfl (fun c z => by cases z) (PySem.W.looks_mroIn XK1 S.sub) (fun h2 e2 k2 => ?_)
  have XK2 : K.In h2 := fun b o e => k2 b o (XK1 b o e)
  have IA : PySem.W.InstAt h2 a (PySem.HandSPX.excO C tu) C none := ⟨k2 _ _ hx, rfl, rfl, trivial⟩
  refine PySem.W.kxs_getMethod PySem.W.kxs_ValueError e2 (PySem.W.looks_opaque XK2 S.opq) ((PySem.W.looks_clsIn XK2 hcls).andThen .now) rfl XK2 hmro (IA.type.andThen (PySem.W.looks_subIn XK2 S.ve)) aC rfl ?_
  have k3 : ∀ b o, h1.get? b = some o → (h2.push (PySem.W.kxs_mw "ValueError.__init__" a)).get? b = some o := fun b o e => Heap.get?_push_of_some _ (k2 b o e)
  have I3 := I.kept (t' := s.toks + 2 + 1) k3
  have hu3 : (h2.push (PySem.W.kxs_mw "ValueError.__init__" a)).get? h2.objs.size = some (PySem.W.kxs_mw "ValueError.__init__" a) := Heap.get?_push_at rfl rfl
  refine PySem.W.kxs_callWith (i := "ValueError.__init__") (x := a) rfl ?_
  refine PySem.Calls.evalArgs_plain ?_
  refine PySem.Calls.spliced_cons (PySem.Calls.Constant_str (k := i) (pos := p3) (PySem.Calls.spliced_nil ⟨hu3, ?_⟩))
  have hx3 := Heap.get?_push_of_some (PySem.W.kxs_mw "ValueError.__init__" a) (k2 _ _ hx)
  have XK3 : K.In (h2.push (PySem.W.kxs_mw "ValueError.__init__" a)) := fun b o e => Heap.get?_push_of_some _ (XK2 b o e)
  refine call_mwVE S.cls XK3 hu3 hx3 (by rw [sizeLine_eq]; show 1 ≤ _; decide) (fun h4 t4 k4 hx4 => ?_)
  have J := I3.write (t' := s.toks + 2 + 1 + 1) (x := a) (e := a) (o := exo a C none) (by rw [ha]; exact True.intro) (.inl rfl) k4 ⟨_, hx4⟩ (exo_ok hx4)
  have eu : upd H a (exo a C none) = H := by
    funext b
    by_cases hb : b = a
    · rw [hb, upd_same, ha]
    · rw [upd_ne hb]
  rw [eu] at J
  refine PySem.ks_wpAt_execs_cons (wpAt_of_wpAny (thn ((ps_ost (pe_var (i := 0) (x := "self") rfl (.inl (SS.par _ List.mem_cons_self))) (pe_var (i := 1) (x := pr) rfl (.inl (SS.par _ (by simp))) hd1 hd2) (hs2 s.heap.objs.size)).run [] _ _ _ { nx := fun _ H' => Q .non H', rt := Q } J ?_) fun fl s5 h5 => ?_))
  · exact ⟨v, rfl, .ref a, rfl, a, C, rfl, S.cls, hno, .inl ⟨ha, q⟩⟩
  have fin : ∀ {σ' : L2.St} {H' : Hp} {z : V} {u : Value}, Inv (NdefX.ncx CX P w K mg base ["self", pr, "__class__"] F fI A outer s H E) [] σ' H' s5 → L2.RelV z u → Q z H' → CE outer P w H s Q u s5 :=
    fun {σ' H' z u} L rz qz => ⟨z, H', L.os, L.bare, L.base, L.hok, rz, qz⟩
  cases fl with
  | next =>
    obtain ⟨σ', H', L, qz⟩ := h5
    exact wpAt_of_wpAny (wpAny_execs_nil (fin (z := V.non) (u := Value.none) L rfl qz))
  | ret u =>
    obtain ⟨z, σ', H', L, rz, qz⟩ := h5
    exact fin L rz qz
  | brk =>
    obtain ⟨_, _, _, z⟩ := h5
    exact False.elim z
  | cont =>
    obtain ⟨_, _, _, z⟩ := h5
    exact False.elim z
end
end Fx

set_option Elab.async false
set_option linter.all false
set_option maxRecDepth 100000
set_option maxHeartbeats 4000000
/-! Keys (an int, a tuple of ints): sorted(.., key=lambda x: (len(x), x)). -/
namespace Fx
open PySem PySem.Spec PyProof.Rows L2 LamX
def lexP (a b : Int × List Int) : Bool := if a.1 = b.1 then HT.lexLt a.2 b.2 else decide (a.1 < b.1)
theorem swo_lexP : SrtO.Swo lexP := by
  refine ⟨fun x y h => ?_, fun x y z h1 h2 => ?_⟩
  · unfold lexP at h ⊢
    by_cases e : x.1 = y.1
    · rw [if_pos e] at h
      rw [if_pos e.symm]
      exact swo_lexLt.asym _ _ h
    · rw [if_neg e] at h
      rw [if_neg (fun z => e z.symm)]
      have := of_decide_eq_true h
      exact decide_eq_false (by omega)
  · unfold lexP at h1 h2 ⊢
    by_cases e1 : y.1 = x.1
    · by_cases e2 : z.1 = y.1
      · rw [if_pos e1] at h1
        rw [if_pos e2] at h2
        rw [if_pos (e2.trans e1)]
        exact swo_lexLt.tr _ _ _ h1 h2
      · rw [if_neg e2] at h2
        rw [if_neg (by rw [← e1]; exact e2)]
        have := of_decide_eq_false h2
        exact decide_eq_false (by omega)
    · rw [if_neg e1] at h1
      have h1 := of_decide_eq_false h1
      by_cases e2 : z.1 = y.1
      · rw [if_neg (by rw [e2]; exact e1)]
        exact decide_eq_false (by omega)
      · rw [if_neg e2] at h2
        have h2 := of_decide_eq_false h2
        rw [if_neg (by omega)]
        exact decide_eq_false (by omega)
def keyLt (K : PySem.W.Frag) : KeyOrd K (Int × List Int) where
  KV := fun H v p => ∃ t b, v = .ref t ∧ H t = some (.tup [.int p.1, .ref b]) ∧ H b = some (.tup (p.2.map V.int))
  lt := lexP
  swo := swo_lexP
  mono := fun e h => by
    obtain ⟨t, b, e1, e2, e3⟩ := h
    exact ⟨t, b, e1, e _ _ e2 (fun ps z => by cases z), e _ _ e3 (fun ps z => by cases z)⟩
/-- the value v is the key p -/
def IsLtK (h : Heap) (v : Value) (p : Int × List Int) : Prop := ∃ (a : Addr) (o : Obj) (t : Tok) (u : Value) (n : Nat), v = .ref a ∧ h.get? a = some o ∧ o.cls = .type "tuple" ∧ o.data = .seq #[.int p.1 t, u] n ∧ TS.TupInts h u p.2
def keyAt (h : Heap) (v : Value) : Int × List Int := match v with
  | .ref a => (match h.get? a with
    | some ⟨_, _, .seq its _, _⟩ => (match its.toList with
      | [.int x _, u] => (x, TS.intsOf h u)
      | _ => (0, []))
    | _ => (0, []))
  | _ => (0, [])
theorem keyAt_eq {h : Heap} {v : Value} {p : Int × List Int} (k : IsLtK h v p) : keyAt h v = p := by
  obtain ⟨a, ⟨oc, od, dt, sl⟩, t, u, n, rfl, ho, hc, hd, hu⟩ := k
  have hd : dt = .seq #[.int p.1 t, u] n := hd
  subst hd
  unfold keyAt
  simp only [ho]
  show (p.1, TS.intsOf h u) = p
  rw [hu.ints]
theorem eqAt_tup {A : Around} {s : Shared} {u v : Value} {ns ms : List Int} (h1 : TS.TupInts s.heap u ns) (h2 : TS.TupInts s.heap v ms) (hu : A.units < cLine) : ∃ e, SeqAt.EqAt A s u v e ∧ (e = true ↔ ns = ms) := by
  have q1 := h1.ints
  have q2 := h2.ints
  obtain ⟨a, xs, rfl, ta, ia⟩ := h1
  obtain ⟨b, ys, rfl, tb, ib⟩ := h2
  by_cases e : a = b
  · subst e
    exact ⟨true, .same _, fun _ => q1.symm.trans q2, fun _ => rfl⟩
  · have lx : xs.size = ns.length := by rw [← ia.length, Array.length_toList]
    have ly : ys.size = ms.length := by rw [← ib.length, Array.length_toList]
    refine ⟨_, .of_refs e (.tuples (e := fun j => ns.getD j 0 == ms.getD j 0) ta tb hu fun j g1 g2 => ?_), ?_⟩
    · obtain ⟨t1, z1⟩ := IntsAre.int_at ia j xs[j] (by rw [Array.getElem?_toList]; exact Array.getElem?_eq_getElem g1)
      obtain ⟨t2, z2⟩ := IntsAre.int_at ib j ys[j] (by rw [Array.getElem?_toList]; exact Array.getElem?_eq_getElem g2)
      rw [z1, z2]
      exact .int_int _ _ _ _
    · rw [Bool.and_eq_true, List.all_eq_true, beq_iff_eq, lx, ly]
      constructor
      · rintro ⟨h1, h2⟩
        refine List.ext_getElem h2 fun j g1 g2 => ?_
        have h3 := h1 j (List.mem_range.mpr (by omega))
        rw [beq_iff_eq, List.getD_eq_getElem?_getD, List.getD_eq_getElem?_getD, List.getElem?_eq_getElem g1, List.getElem?_eq_getElem g2] at h3
        exact h3
      · rintro rfl
        exact ⟨fun j _ => beq_self_eq_true _, rfl⟩
theorem isLtK_of {X : Cx} {pins : List (Addr × Obj)} {σ : L2.St} {H : Hp} {s : Shared} (I : Inv X pins σ H s) {v : V} {u : Value} {p : Int × List Int} (r : RelV v u) (k : (keyLt X.K).KV H v p) : IsLtK s.heap u p := by
  obtain ⟨t, b, rfl, h1, h2⟩ := k
  cases r
  obtain ⟨its, r1, ⟨o, ho, hc, n, hd⟩, _⟩ := I.tuple (.of h1)
  cases r1 with
  | @cons _ u1 _ us1 ra rr =>
  cases rr with
  | @cons _ u2 _ us2 rb rn =>
  cases rn
  obtain ⟨tk, rfl⟩ := ra
  have e2 : u2 = Value.ref b := rb
  subst e2
  obtain ⟨its2, r2, p2, _⟩ := I.tuple (.of h2)
  exact ⟨t, o, tk, .ref b, n, rfl, ho, hc, hd, b, its2.toArray, rfl, p2, by simpa using intsAre_of r2⟩
theorem cmpK {P : Program} {w : World} {A : Around} {s : Shared} {us : List Value} (hp : ∀ v ∈ us, ∃ p, IsLtK s.heap v p) (hu : A.units < cLine) : SrtO.Cmp P w A s (tuples' true) (fun p => p.1 ∈ us) (SrtO.lt2 fun v u => lexP (keyAt s.heap v) (keyAt s.heap u)) := by
  intro p q hm hm'
  obtain ⟨k1, h1⟩ := hp _ hm
  obtain ⟨k2, h2⟩ := hp _ hm'
  change wpAny (model P w) A (keyLt' (tuples' true) p.1 q.1) (fun r s' => s' = s ∧ r = lexP (keyAt s.heap p.1) (keyAt s.heap q.1)) (fun _ _ => False) s
  rw [keyAt_eq h1, keyAt_eq h2]
  obtain ⟨a, o, t, u, n, e, ho, hc, hd, hi⟩ := h1
  obtain ⟨a', o', t', u', n', e', ho', hc', hd', hi'⟩ := h2
  rw [e, e']
  apply PySem.W.kat_lt ho hd ho' hd'
  change PySem.W.KatLex P w A true (decide (2 < 2)) _ [(Value.int k1.1 t, Value.int k2.1 t'), (u, u')] 0 s
  apply PySem.W.kat_cons
  apply SeqAt.EqAt.int_int
  refine PySem.W.kat_go (fun e1 => ?_) (fun e1 => ?_)
  · have ex : k1.1 = k2.1 := by simpa using e1
    have el : lexP k1 k2 = HT.lexLt k1.2 k2.2 := if_pos ex
    rw [el]
    obtain ⟨b, he, hb⟩ := eqAt_tup hi hi' hu
    apply PySem.W.kat_yes
    apply PySem.W.kat_cons
    apply he
    refine PySem.W.kat_go (fun e2 => ?_) (fun e2 => ?_)
    · apply PySem.W.kat_yes
      apply PySem.W.kat_nil
      rw [hb.mp e2, swo_lexLt.refl]
      exact ⟨rfl, rfl⟩
    · apply PySem.W.kat_no
      apply PySem.W.kat_one
      obtain ⟨c, xs, rfl, tc, ic⟩ := hi
      obtain ⟨d, ys, rfl, td, id'⟩ := hi'
      exact HT.lt_tupInts tc td ic id' hu ⟨rfl, rfl⟩
  · have ex : ¬ k1.1 = k2.1 := by simpa using e1
    have el : lexP k1 k2 = decide (k1.1 < k2.1) := if_neg ex
    rw [el]
    apply PySem.W.kat_no
    exact oneLt_int ⟨rfl, rfl⟩
theorem firsts_K {h : Heap} : ∀ {us : List Value}, (∀ v ∈ us, ∃ p, IsLtK h v p) → ∃ fs : List Value, PySem.W.KatTups h us fs ∧ fs.length = us.length ∧ ∀ f ∈ fs, ∃ (x : Int) (t : Tok), f = Value.int x t
  | [], _ => ⟨[], .nil, rfl, fun _ hm => by cases hm⟩
  | v :: us, hp => by
    obtain ⟨fs, h1, h2, h3⟩ := firsts_K (us := us) fun z hz => hp z (List.mem_cons_of_mem _ hz)
    obtain ⟨p, a, o, t, u, n, e, ho, hc, hd, _⟩ := hp v List.mem_cons_self
    subst e
    refine ⟨.int p.1 t :: fs, .cons ho hc hd rfl h1, by simp [h2], fun f hf => ?_⟩
    rcases List.mem_cons.mp hf with e | hf
    · exact ⟨_, _, e⟩
    · exact h3 f hf
theorem keys_all {X : Cx} {pins : List (Addr × Obj)} {σ : L2.St} {H : Hp} {s : Shared} (I : Inv X pins σ H s) : ∀ {ks : List V} {us : List Value} {as : List (Int × List Int)}, Vals ks us → Paired ((keyLt X.K).KV H) ks as → ∀ (i : Nat) (u : Value), us[i]? = some u → ∃ a, as[i]? = some a ∧ IsLtK s.heap u a
  | _, _, _, .nil, .nil, i, u, h => by cases h
  | _, _, _, .cons r t, .cons q p, 0, u, h => by
    cases h
    exact ⟨_, rfl, isLtK_of I r q⟩
  | _, _, _, .cons r t, .cons q p, i + 1, u, h => keys_all I t p i u h
theorem keySort_lt {K : PySem.W.Frag} : KeySort (keyLt K) := by
  intro X pins σ H s A ks us as hK I hu rv pk h2
  subst hK
  have hall := keys_all I rv pk
  have hp : ∀ v ∈ us, ∃ p, IsLtK s.heap v p := fun v hv => by
    obtain ⟨i, hi⟩ := List.mem_iff_getElem?.mp hv
    obtain ⟨a, _, h⟩ := hall i v hi
    exact ⟨a, h⟩
  refine ⟨tuples' true, fun v u => lexP (keyAt s.heap v) (keyAt s.heap u), ⟨fun x y => swo_lexP.asym _ _, fun x y z => swo_lexP.tr _ _ _⟩, fun Q E hq => ?_, cmpK hp (by omega), fun i j u v a b hi hj ha hb => ?_⟩
  · obtain ⟨fs, h1, h3, h4⟩ := firsts_K hp
    refine PySem.W.kat_kind (T := .type "int") h1 (by omega) (fun f hm => ?_) (by rfl) ?_
    · obtain ⟨x, t, rfl⟩ := h4 f hm
      exact PySem.W.Looks.now
    · have e : (Value.type "int" != Value.type "tuple") = true := by decide
      rw [e]
      exact hq
  · obtain ⟨a', e1, k1⟩ := hall i u hi
    obtain ⟨b', e2, k2⟩ := hall j v hj
    rw [ha] at e1
    rw [hb] at e2
    cases e1
    cases e2
    change lexP (keyAt s.heap u) (keyAt s.heap v) = lexP a b
    rw [keyAt_eq k1, keyAt_eq k2]
theorem keyD_lt {K : PySem.W.Frag} : KeyD (keyLt K) fun p => .tup [.int p.1, dI p.2] := ⟨fun g r => by
  cases r with
  | tup h l =>
    cases l with
    | cons r1 r2 =>
    cases r2 with
    | cons r3 r4 =>
    cases r4
    cases r1
    cases r3 with
    | tup h2 l2 =>
    rw [RpL.ints l2] at h2
    exact ⟨_, _, rfl, (g _ _ h).1, (g _ _ h2).1⟩⟩
end Fx

set_option Elab.async false
set_option linter.all false
set_option maxRecDepth 100000
set_option maxHeartbeats 4000000
/-! enumerate of a tuple. -/
namespace Fx
open PySem PySem.Spec PyProof.Rows L2 LamX
section
open AutoSeq1 (wpAny_loadPart')
/-- the two objects of enumerate(t) -/
abbrev enI (a : Addr) : Obj := { cls := .type "tuple_iterator", data := .fields #[.ref a, .int 0 0] }
abbrev enE (it : Addr) : Obj := { cls := .type "enumerate", data := .fields #[.none, .bool false, .ref it, rawInt 0, .none, .none] }
theorem enumT_new (a : Addr) (its : Array Value) (n : Nat) (dct : Option Addr) (sl : Array (Option Value)) :
    Meets (Builtin.«enumerate.__new__» ⟨[.type "enumerate", .ref a], []⟩) (fun _ R s => s.heap.get? a = some { cls := .type "tuple", dict := dct, data := .seq its n, slots := sl } ∧
      R (.ok (.ret (.ref (s.heap.push (enI a)).objs.size))) { s with heap := (s.heap.push (enI a)).push (enE s.heap.objs.size) }) :=
  .of_wp fun P w A R s h => by
    obtain ⟨hp, g, d, tk, os⟩ := s
    obtain ⟨ha, h⟩ := h
    have sub := sub_enumerate
    have tA : Heap.IsTuple (Shared.heap ⟨hp, g, d, tk, os⟩) a its := ⟨_, ha, rfl, n, rfl⟩
    wp_walk using wpAny_loadPart' ha
    apply wpAny_stack_any
    intro st
    apply wpAny_pure
    split
    · rename_i c _ _ _ _ _
      cases (c == Value.type "enumerate") <;>
      · wp_walk using wpAny_loadPart' ha, wpAny_pyIter_tuple tA
        exact ⟨_, rfl, h⟩
    · wp_walk using wpAny_loadPart' ha, wpAny_pyIter_tuple tA
      exact ⟨_, rfl, h⟩
end
/-- enumerate(t), called -/
theorem call_enumT {P : Program} {w : World} {A : Around} {E : Value → Shared → Prop} {s : Shared} {a : Addr} {its : Array Value} {Q : Value → Shared → Prop} (hT : s.heap.IsTuple a its)
    (h : ∀ h', IsEnum h' (s.heap.objs.size + 1) s.heap.objs.size 0 .none → h'.IsTupleIter s.heap.objs.size a 0 → (∀ b o, s.heap.get? b = some o → h'.get? b = some o) → Q (.ref (s.heap.objs.size + 1)) { s with heap := h' }) :
    wpAny (model P w) A (call (.type "enumerate") [.ref a]) Q E s := by
  obtain ⟨⟨c, dct, dt, sl⟩, ha, hc, n, hd⟩ := hT
  have hc' : c = .type "tuple" := hc
  have hd' : dt = .seq its n := hd
  subst hc' hd'
  have hz : (s.heap.push (enI a)).objs.size = s.heap.objs.size + 1 := Heap.size_push ..
  have hi : ((s.heap.push (enI a)).push (enE s.heap.objs.size)).get? s.heap.objs.size = some (enI a) := Heap.get?_push_of_some _ (Heap.get?_push_size _ rfl)
  have he : ((s.heap.push (enI a)).push (enE s.heap.objs.size)).get? (s.heap.objs.size + 1) = some (enE s.heap.objs.size) := by
    rw [← hz]
    exact Heap.get?_push_size _ rfl
  refine callType_new F.called_enumerate (by decide) (F.typeCall_enumerate_1 _) (F.newCall_enumerate_1 _) (fun obj => F.args_object_init_2 obj _) F.entry_enumerate_new (enumT_new a its n dct sl) ⟨ha, ?_⟩
  change _ ∧ _
  rw [hz]
  exact ⟨⟨_, he, rfl⟩, h _ he ⟨_, hi, rfl, rfl⟩ fun b o x => Heap.get?_push_of_some _ (Heap.get?_push_of_some _ x)⟩
/-- the tuple at a, each item in a new pair -/
def IteT (K : PySem.W.Frag) (a : Addr) : It where
  go := fun i H => ∃ (xs : List V) (x : V), SqT K H a xs ∧ xs[i]? = some x
  yld := fun i H v H' => ∃ t x, v = .ref t ∧ H t = none ∧ H' = upd H t (.tup [.int (i : Nat), x]) ∧ ∀ xs, SqT K H a xs → xs[i]? = some x
  stop := fun i H => ∃ xs : List V, SqT K H a xs ∧ xs.length ≤ i
theorem turn_enumT {P : Program} {w : World} {K : PySem.W.Frag} {elts : List Expr} {kk : Nat} {tpos : Pos} (a e it : Addr) (hae : a ≠ it) :
    Turn P w K (.Tuple elts kk tpos) (IteT K a) [e, it] e (fun i h => (∃ old, IsEnum h e it ((i : Nat) : Int) old) ∧ h.IsTupleIter it a i ∧ e ≠ it) where
  mem := List.mem_cons_self
  obj := by
    rintro i h ⟨⟨old, he⟩, ⟨o, ho, hc, hd⟩, _⟩ b hb
    rcases List.mem_cons.mp hb with rfl | hb
    · exact ⟨_, he, fun v q => by cases q⟩
    · rw [List.mem_singleton.mp hb]
      exact ⟨o, ho, fun v q => by rw [hd] at q; cases q⟩
  keep := by
    rintro i h h' ⟨⟨old, he⟩, hi, hne⟩ k
    exact ⟨⟨old, k e List.mem_cons_self _ he⟩, hi.at fun o q => k it (by simp) o q, hne⟩
  item := by
    intro X hP hw hK hc i pins s σ H E I hf st hg
    subst hP hw hK
    obtain ⟨⟨old, he⟩, hit, hne⟩ := st
    obtain ⟨xs, x, hq, hx⟩ := hg
    obtain ⟨its, rv, tp, hz⟩ := I.tuple hq
    obtain ⟨u, hu, ru⟩ := rv.get hx
    have le : e < s.heap.objs.size := Heap.lt_size he
    have li : it < s.heap.objs.size := by obtain ⟨_, q, _⟩ := hit; exact Heap.lt_size q
    have lae : a ≠ e := fun z => by
      obtain ⟨o, ho, hc', n, hd⟩ := tp
      rw [z, he] at ho
      cases ho
      exact absurd (Value.type.inj hc') (by decide)
    have sz : i < its.toArray.size := by
      have := (List.getElem?_eq_some_iff.mp hu).1
      rw [List.size_toArray]; exact this
    refine wpAny_pyNext_enum_itemD (Draws.tuple (prog := X.prog) (w := X.w) (A := X.A.in1) (show X.A.in1.handled = none from I.ok.hd hc) it a hae its.toArray) he ⟨hit, tp⟩ sz hne (by simp [hne, Ne.symm lae]) (fun y h' tk hy ho st' hT _ hk => ?_)
    have ey : y = u := by
      have hy' : its.toArray[i]? = some y := hy
      rw [List.getElem?_toArray, hu] at hy'
      exact (Option.some.inj hy').symm
    subst ey
    refine ⟨_, rfl, wpAny_letOwnedTupleGo_enum (s := { s with heap := h', toks := tk + 1 }) ho fun h2 he2 sb => ?_⟩
    have hT2 : h2.get? s.heap.objs.size = some { cls := .type "tuple", data := .seq #[.int i tk, y] } := (sb.2 _ (Nat.ne_of_gt le)).trans hT
    have new : ObjOk X.prog X.w (upd H s.heap.objs.size (.tup [.int (i : Nat), x])) h2 s.heap.objs.size (.tup [.int (i : Nat), x]) := ⟨by change 2 ≤ sizeLine; decide, [.int i tk, y], .cons ⟨_, rfl⟩ (.cons ru .nil), ⟨_, hT2, rfl, _, rfl⟩⟩
    have kk : ∀ b o, b ∉ [e, it] → s.heap.get? b = some o → h2.get? b = some o := fun b o hb q => by
      have h1 : b ≠ e := fun z => hb (by simp [z])
      have h3 : b ≠ it := fun z => hb (by simp [z])
      exact (sb.2 b h1).trans (hk b o h1 h3 q)
    have I1 := I.turnedNew (t' := tk + 1) (ch := [e, it]) (h' := h2) (fun b o hb q => kk b o hb q) hf (Nat.le_refl _) new
    have ei : ((i + 1 : Nat) : Int) = (i : Int) + 1 := by omega
    refine ⟨.ref s.heap.objs.size, _, I1, rfl, ⟨_, x, rfl, I.hok.fresh (Nat.le_refl _), rfl, fun ys hy => ?_⟩, ⟨⟨y, ?_⟩, st'.1.at fun o q => (sb.2 it (Ne.symm hne)).trans q, hne⟩, fun b hb => ?_⟩
    · rw [I.tuple_inj hy hq]; exact hx
    · rw [ei]; exact he2
    · have lb : b < s.heap.objs.size := by
        rcases List.mem_cons.mp hb with rfl | hb
        · exact le
        · rw [List.mem_singleton.mp hb]; exact li
      rw [upd_ne (Nat.ne_of_lt lb)]
      exact (hf b hb).1
  done := by
    intro X hP hw hK hc i pins s σ H E I hf st hg
    subst hP hw hK
    obtain ⟨⟨old, he⟩, hit, hne⟩ := st
    obtain ⟨xs, hq, hx⟩ := hg
    obtain ⟨its, rv, tp, hz⟩ := I.tuple hq
    obtain ⟨f0, f1, f2, f3, f4, f5⟩ := hf it (by simp)
    have hl := rv.length
    have hend : its.toArray[i]? = none := by
      rw [List.getElem?_toArray]
      exact List.getElem?_eq_none (by omega)
    have D : Draws X.prog X.w X.A.in1 it [it, a] i (fun _ _ => True) (fun j h => j = i ∧ h.IsTupleIter it a j ∧ h.IsTuple a its.toArray) :=
      ⟨fun _ _ st => let ⟨o, ho, _⟩ := st.2.1; ⟨o, ho⟩, fun _ _ _ st k => ⟨st.1, st.2.1.at fun o q => k it (by simp) o q, st.2.2.at fun o q => k a (by simp) o q⟩, fun j _ _ _ hj st _ => absurd st.1 (Nat.ne_of_lt hj),
        fun s Q E st hE => wpAny_nextOf_tuple_end (I.ok.hd hc) st.2.1 st.2.2 hend hE⟩
    exact wpAny_pyNext_enum_endD D he ⟨rfl, hit, tp⟩ fun h' eb => ⟨rfl, I.turned (t' := s.toks) (fun b o hb q => eb b o hb q) f0 f1 f3 f4 f5⟩
  self := by
    rintro A i s Q E ⟨⟨_, he⟩, _⟩ h
    exact wpAny_pyIter_enum he h
/-- enumerate of a list or a tuple -/
def iEnumA (K : PySem.W.Frag) (ta : TA) : TI := fun σ H R => ta σ H fun vs H1 => ∃ a xs, vs = [.ref a] ∧ ((SqL K H1 a xs ∧ R (Ite K a) H1) ∨ (SqT K H1 a xs ∧ R (IteT K a) H1))
theorem pi_enumA {X : Cx} {e : Expr} {ta : TA} {p pos tpos : Pos} {elts : List Expr} {kk : Nat} (hg : Gl X "enumerate") (hm : X.mg "enumerate" = none) (ha : PA X [e] ta) (hs : starEach [e] X.env = [(false, eval e X.env)] := by rfl) :
    PI X (.Tuple elts kk tpos) (.Call (.Name "enumerate" p) [e] [] pos) (iEnumA X.K ta) := by
  refine ⟨fun pins s σ H R I h => ?_⟩
  refine Call_ (ld_blt I hg hm boot_enumerate (PyProof.Rows.callWith_type1 (thn (ha.run pos pins s σ H _ I h) fun us s1 ⟨vs, H1, I1, r1, a, xs, ex, q⟩ => ?_) hs rfl))
  subst ex
  have eu := Vals.ref1 r1
  subst eu
  have room : ∀ b : Addr, b ∈ [s1.heap.objs.size + 1, s1.heap.objs.size] → FpOk X pins H1 b := fun b hb => by
    have hle : s1.heap.objs.size ≤ b := by
      rcases List.mem_cons.mp hb with rfl | hb
      · exact Nat.le_succ _
      · rw [List.mem_singleton.mp hb]; exact Nat.le_refl _
    exact I1.fpOk hle (I1.hok.fresh hle)
  rcases q with ⟨hq, q⟩ | ⟨hq, q⟩
  · obtain ⟨its, rv, p', hz⟩ := I1.list hq
    exact call_enumerate_list p'.isList fun h' he hit hsz hk => wpAny_pyIter_enum he ⟨s1.heap.objs.size + 1, [s1.heap.objs.size + 1, s1.heap.objs.size], _, _, H1, rfl, I1.kept (t' := s1.toks) hk, turn_enum a (s1.heap.objs.size + 1) s1.heap.objs.size, ⟨⟨.none, he⟩, hit, Nat.succ_ne_self _⟩, room, q⟩
  · obtain ⟨its, rv, tp, hz⟩ := I1.tuple hq
    have la : a ≠ s1.heap.objs.size := by
      obtain ⟨o, ho, _⟩ := tp
      exact Nat.ne_of_lt (Heap.lt_size ho)
    exact call_enumT tp fun h' he hit hk => wpAny_pyIter_enum he ⟨s1.heap.objs.size + 1, [s1.heap.objs.size + 1, s1.heap.objs.size], _, _, H1, rfl, I1.kept (t' := s1.toks) hk, turn_enumT a (s1.heap.objs.size + 1) s1.heap.objs.size la, ⟨⟨.none, he⟩, hit, Nat.succ_ne_self _⟩, room, q⟩
section
variable {T : List (Addr × Str)} {W : Wld T} {G H : Hp} {K : PySem.W.Frag}
theorem its_enumT {a : Addr} {xs : List V} {ds : List D} (h : G a = some (.tup xs)) (r : RpL G xs ds) : Its W (IteT K a) G (ds.zipIdx.map fun p => .tup [.int (p.2 : Nat), p.1]) := by
  refine ⟨fun i G2 H2 g e _ hi => ?_, fun i G2 H2 g e _ hi => ?_, fun i d c G2 H2 x H' g e j hd y => ?_⟩
  · have hi' : i < xs.length := by rw [r.len]; simpa using hi
    exact ⟨xs, xs[i], sqT_of g (e _ _ h), by simp [hi']⟩
  · exact ⟨xs, sqT_of g (e _ _ h), by rw [r.len]; simpa using hi⟩
  · obtain ⟨t, z, rfl, nt, rfl, hy⟩ := y
    rw [List.getElem?_map, List.getElem?_zipIdx] at hd
    cases hq : ds[i]? with
    | none => rw [hq] at hd; cases hd
    | some d0 =>
      rw [hq] at hd
      cases hd
      obtain ⟨v, e1, r1⟩ := r.get hq
      have := hy xs (sqT_of g (e _ _ h))
      rw [e1] at this
      cases this
      refine ⟨upd G2 t _, stp_new g nt, gok_new g j nt (noTb_tup _), J_new j nt, .tup upd_same ?_⟩
      have e2 : ((0 + i : Nat) : Int) = (i : Int) := by omega
      show RpL _ [V.int (i : Nat), z] [D.int ((0 + i : Nat) : Int), d0]
      rw [e2]
      exact .cons (.int _) (.cons ((r1.mono e).mono (same_new (g.none nt) _)) .nil)
/-- a list, or a tuple -/
def dS : Bool → List D → D
  | false, ds => .lst ds
  | true, ds => .tup ds
theorem src_enumA {ta : TA} {env : Env'} {b : Bool} {ds : List D} (h : EA W ta env [dS b ds]) : Src W (iEnumA K ta) env (ds.zipIdx.map fun p => .tup [.int (p.2 : Nat), p.1]) := fun c G0 H0 σ G H A R q =>
  h c G0 H0 σ G H A _ fun v G1 H1 s1 g1 j1 r1 => by
    cases r1 with
    | cons h1 h2 =>
      cases h2
      cases b with
      | false =>
        cases h1 with
        | lst ha ra => exact ⟨_, _, rfl, .inl ⟨sqL_of g1 ha, q _ G1 H1 s1 g1 j1 (its_enum ha ra)⟩⟩
      | true =>
        cases h1 with
        | tup ha ra => exact ⟨_, _, rfl, .inr ⟨sqT_of g1 ha, q _ G1 H1 s1 g1 j1 (its_enumT ha ra)⟩⟩
theorem rd_ixS {b : Bool} {ds : List D} {i : Nat} {d : D} (h : ds[i]? = some d) : RD2 W (rIx K) (dS b ds) (.int (i : Nat)) d := by
  cases b with
  | false => exact rd_ixL h
  | true => exact rd_ixT h
theorem rdl_lenQ {b : Bool} {ds : List D} : RDL W (fun xs H Q => ∃ p ys, xs = [.ref p] ∧ (SqL K H p ys ∨ SqT K H p ys) ∧ Q (.int ys.length) H) [dS b ds] (.int ds.length) := by
  cases b with
  | false => exact rdl_len
  | true => exact rdl_lenT
end
section
variable {X : Cx} (K : PySem.W.Frag)
theorem kpi_enumA {e : Expr} {ta : TA} {p pos tpos : Pos} {elts : List Expr} {kk : Nat} (hg : Gl X "enumerate") (hm : X.mg "enumerate" = none) (ha : PA X [e] ta) (hs : starEach [e] X.env = [(false, eval e X.env)] := by rfl) (h : X.K = K := by rfl) :
    PI X (.Tuple elts kk tpos) (.Call (.Name "enumerate" p) [e] [] pos) (iEnumA K ta) := by subst h; exact pi_enumA hg hm ha hs
end
end Fx

set_option Elab.async false
set_option linter.all false
set_option maxRecDepth 100000
set_option maxHeartbeats 4000000
/-! Raising an error that keeps a field; repr of ints, None, lists, tuples; in, for lists and tuples; a list some times. -/
namespace Fx
open PySem PySem.Spec PyProof.Rows L2 LamX
/-- a class whose __init__ keeps what it is told in the field f -/
structure XClF (P : Program) (w : World) (K : PySem.W.Frag) (mg : Str → Option Value) (base : Heap) (k : Nat) (x f : Str) (C : Addr) : Prop where
  mgC : mg x = some (.ref C)
  cls : OexC K C
  ini : ∃ (fI : Addr) (fd : FuncData) (ps : List Str), PySem.W.findIn K (.ref C) "__init__" = some (some (.ref fI)) ∧ PySem.W.typeIn K (.ref fI) = some (.type "function") ∧ FnOk P w K mg base C8.CX0 k fI fd ps (SpInit C f) ∧ Binds K fd ps []
def tRaiseF (C : Addr) (f : Str) (t : TA) (E : XK) : TS := fun _ σ H => tMkO C (SpInit C f) [] t σ H E
theorem ps_rzF {X : Cx} {j k : Nat} {C : Addr} {x f : Str} {E : XK} {p pos pos2 : Pos} {e : Expr} {t : TA} (q : XClF X.prog X.w X.K X.mg X.base k x f C) (hr : Room j X.A) (hk : k + 1 ≤ j) (hc : X.calm = true) (tk : Takes X (fun cls d _ H => E cls d H)) (hg : Gl X x) (ha : PA X [e] t)
    (hdb : (x == ("__debug__" : Str)) = false := by decide) (he : starEach [e] X.env = (false, eval e X.env) :: starEach [] X.env := by rfl) (hpl : (backTo pos (starEach [] X.env)).any (·.1) = false := by rfl) : PS X (.Raise (some (.Call (.Name x p) [e] [] pos)) none pos2) (tRaiseF C f t E) := by
  obtain ⟨fI, fd, ps, iC, tI, F1, hb⟩ := q.ini
  exact ps_raise hc tk (pmk_oex (CX := C8.CX0) q.cls iC tI F1 (hr.mono hk) hb .nil (fun _ _ _ _ _ _ _ z => z.elim) hg q.mgC ha hdb he hpl)
section
variable {T : List (Addr × Str)} {W : Wld T} {G H G1 H1 : Hp} {G0 : Hp × Hp} {c : Nat} {K : PySem.W.Frag} {env : Env'} {po : Po}
theorem tr_raiseF {C : Addr} {f : Str} {ta : TA} {d : D} (h : EA W ta env [d]) (hp : po.xP C [(f, d)] c) : Tr W (tRaiseF C f ta po.xE) env c po := fun G0 H0 σ G H A E F =>
  h c G0 H0 σ G H A _ fun vs G1 H1 s1 g1 j1 r1 => by
    cases r1 with
    | @cons v d' vs' ds' rv rn =>
    cases rn
    refine ⟨by show 1 ≤ 1000; decide, fun a ha => ⟨a, v, rfl, upd_same, fun dx hdx hne => ?_⟩⟩
    rw [upd_ne hne] at hdx
    refine ⟨rfl, dx, [(f, v)], upd_same, by rw [upd_ne hne]; exact upd_same, hdx, ?_⟩
    have e : upd (del (upd (upd (upd H1 a (exo a C none)) dx (exd dx [(f, v)])) a (exo a C (some dx))) a) dx (.xd [(f, v)]) = upd H1 dx (.xd [(f, v)]) := by
      funext b
      by_cases h1 : b = dx
      · rw [h1, upd_same, upd_same]
      · rw [upd_ne h1, upd_ne h1]
        by_cases h2 : b = a
        · rw [h2, del_same, ha]
        · rw [del_ne h2, upd_ne h2, upd_ne h1, upd_ne h2]
    rw [e]
    have nt : NoTb (.xd [(f, v)]) := fun _ z => by cases z
    have sn := same_new (g1.none hdx) (HO.xd [(f, v)])
    exact F.xx C [(f, d)] (some dx) c _ _ (A.st.trans (s1.trans (stp_new g1 hdx))) (gok_new g1 j1 hdx nt) (J_new j1 hdx) ⟨_, upd_same, .cons (rv.mono sn) .nil⟩ hp
end
/-! ### in -/
def rInA (K : PySem.W.Frag) : R2 := fun x y H Q => rInD K x y H Q ∨ ∃ d ds, Dp K H x d ∧ Dp K H y (.tuple ds) ∧ SeqAt.shaped d = true ∧ SeqAt.shaped (.tuple ds) = true ∧ Q (.bl (ds.any fun z => PyData.eqv z d)) H
theorem op_inA {X : Cx} (hu : X.A.units + 65 < cLine) : OpR X (compareOp .In) (rInA X.K) := by
  intro pins s σ H x y v u Q I rx ry h
  rcases h with h | ⟨d, ds, hd, he, sd, se, q⟩
  · exact op_inD hu pins s σ H x y v u Q I rx ry h
  · obtain ⟨as, r1⟩ := Dp.reads I d x v hd rx
    obtain ⟨bs, r2⟩ := Dp.reads I (.tuple ds) y u he ry
    exact SeqAt.in_tuple_reads r2 r1 (SeqAt.canLay_of_shaped se) (SeqAt.canLay_of_shaped sd) (room_in_shaped sd hu) ⟨.bl _, H, I, rfl, q⟩
theorem kinA {X : Cx} (K : PySem.W.Frag) (hu : X.A.units + 65 < cLine) (h : X.K = K := by rfl) : OpR X (compareOp .In) (rInA K) := by subst h; exact op_inA hu
section
variable {T : List (Addr × Str)} {W : Wld T} {K : PySem.W.Frag}
theorem rd_inS {x : D} {b : Bool} {xs : List D} {n m : Nat} (ha : D.ok n x = true) (hb : D.ok m (dS b xs) = true) (hn : n ≤ 64 := by decide) (hm : m ≤ 64 := by decide) : RD2 W (rInA K) x (dS b xs) (.bl ((pyL xs).any fun z => PyData.eqv z x.py)) := by
  cases b with
  | false => exact fun c G H v1 v2 g j r1 r2 Q q => .inl (rd_inD ha hb hn hm c G H v1 v2 g j r1 r2 Q q)
  | true =>
    intro c G H v1 v2 g j r1 r2 Q q
    have h2 := r2.dp (K := K) g hb
    have h3 := shaped_of_ok hb hm
    rw [dS, D.py] at h2 h3
    exact .inr ⟨_, _, r1.dp g ha, h2, shaped_of_ok ha hn, h3, q.here g j (.bl _)⟩
/-! ### a list some times -/
theorem rd_rep {ds : List D} {k : Int} (h0 : -(2 ^ 63) ≤ k ∧ k < 2 ^ 63) (hz : ds.length * k.toNat ≤ 100000) : RD2 W rRep (.lst ds) (.int k) (.lst (List.replicate k.toNat ds).flatten) := fun c G H v1 v2 g j r1 r2 Q q => by
  cases r2
  cases r1 with
  | lst h1 l1 =>
    refine ⟨_, _, _, rfl, rfl, (g _ _ h1).1, h0.1, h0.2, by rw [l1.len]; exact Nat.le_trans hz (by decide), fun p hp => q.newL g j hp ?_⟩
    have rep : ∀ n : Nat, RpL G (List.replicate n _).flatten (List.replicate n ds).flatten := fun n => by
      induction n with
      | zero => exact .nil
      | succ n ih => rw [List.replicate_succ, List.replicate_succ, List.flatten_cons, List.flatten_cons]; exact l1.app ih
    exact rep _
/-! ### repr -/
def rReprA (K : PySem.W.Frag) : List V → Hp → VK → Prop := fun xs H Q => rRepr K xs H Q ∨ (xs = [.non] ∧ Q (.str "None") H) ∨ ∃ i : Int, xs = [.int i] ∧ i.natAbs.log2 < 1920 ∧ Q (.str (toString i)) H
theorem cr_reprA {X : Cx} (hg : X.A.guards = some []) (hu : X.A.units + 65 < cLine) : CallR X (.builtin "repr") (rReprA X.K) := by
  intro pins s σ H xs us Q I r h
  rcases h with h | ⟨rfl, q⟩ | ⟨i, rfl, hz, q⟩
  · exact cr_repr hg hu pins s σ H xs us Q I r h
  · obtain ⟨u, rfl, ru⟩ := vals1 r
    have e : u = Value.none := ru
    subst e
    exact PySem.P.repr_of_none ⟨.str _, H, I.tok _, ⟨_, rfl⟩, q⟩
  · obtain ⟨u, rfl, t, ru⟩ := vals1 r
    subst ru
    exact PySem.P.repr_of_int hz ⟨.str _, H, I.tok _, ⟨_, rfl⟩, q⟩
theorem kreprA {X : Cx} (K : PySem.W.Frag) (hg : X.A.guards = some []) (hu : X.A.units + 65 < cLine) (h : X.K = K := by rfl) : CallR X (.builtin "repr") (rReprA K) := by subst h; exact cr_reprA hg hu
/-- the text of None, an int -/
def reprS : D → Str
  | .int i => toString i
  | .non => "None"
  | d => d.py.shown
theorem rdl_reprS {d : D} (h : d = .non ∨ ∃ i : Int, d = .int i ∧ i.natAbs.log2 < 1920) : RDL W (rReprA K) [d] (.str (reprS d)) := fun c G H vs g j r Q q => by
  cases r with
  | cons r1 r2 =>
  cases r2
  rcases h with rfl | ⟨i, rfl, hi⟩
  · cases r1
    exact .inr (.inl ⟨rfl, q.here g j (.str _)⟩)
  · cases r1
    exact .inr (.inr ⟨i, rfl, hi, q.here g j (.str _)⟩)
theorem rdl_reprL {d : D} {n : Nat} (hd : (∃ ds, d = .tup ds) ∨ ∃ ds, d = .lst ds) (ho : D.ok n d = true) (hn : n ≤ 64) (hs : d.py.showable = true) (hz : d.py.shown.length ≤ sizeLine) : RDL W (rReprA K) [d] (.str d.py.shown) := fun c G H vs g j r Q q => .inl (rdl_repr hd ho hn hs hz c G H vs g j r Q q)
end
end Fx

set_option Elab.async false
set_option linter.all false
set_option maxRecDepth 100000
set_option maxHeartbeats 4000000
/-! What a body computes: a tree of draws over plain data; that the reading of the body gives no less. -/
namespace Fx
open PySem PySem.Spec PyProof.Rows L2 LamX

inductive M (α : Type) : Type where
  | ret (a : α)
  | exc (C : Addr) (fs : List (Str × D))
  | fail
  | draw (S : Addr) (n : Int) (k : Int → M α)
  | ask (a : Addr) (k : Nat → M α)
namespace M
variable {α β γ : Type}
def bind : M α → (α → M β) → M β
  | .ret a, f => f a
  | .exc C fs, _ => .exc C fs
  | .fail, _ => .fail
  | .draw S n k, f => .draw S n fun x => (k x).bind f
  | .ask a k, f => .ask a fun x => (k x).bind f
/-- nothing may be raised here -/
def nox : M α → M α
  | .ret a => .ret a
  | .exc _ _ => .fail
  | .fail => .fail
  | .draw S n k => .draw S n fun x => (k x).nox
  | .ask a k => .ask a fun x => (k x).nox
/-- None, or the exception, of a class that is caught -/
def cau (L : List Addr) : M α → M D
  | .ret _ => .ret .non
  | .exc C fs => if C ∈ L then .ret (.exc C fs) else .fail
  | .fail => .fail
  | .draw S n k => .draw S n fun x => (k x).cau L
  | .ask a k => .ask a fun x => (k x).cau L
theorem bind_ret {a : α} {f : α → M β} : (M.ret a).bind f = f a := rfl
theorem bind_exc {C : Addr} {fs : List (Str × D)} {f : α → M β} : (M.exc C fs).bind f = .exc C fs := rfl
theorem bind_fail {f : α → M β} : (M.fail).bind f = .fail := rfl
theorem bind_id : ∀ {m : M α}, m.bind .ret = m
  | .ret _ => rfl
  | .exc _ _ => rfl
  | .fail => rfl
  | .draw S n k => by simp only [bind]; congr; funext x; exact bind_id
  | .ask a k => by simp only [bind]; congr; funext x; exact bind_id
theorem bind_bind : ∀ {m : M α} {f : α → M β} {g : β → M γ}, (m.bind f).bind g = m.bind fun a => (f a).bind g
  | .ret _, _, _ => rfl
  | .exc _ _, _, _ => rfl
  | .fail, _, _ => rfl
  | .draw S n k, f, g => by simp only [bind]; congr; funext x; exact bind_bind
  | .ask a k, f, g => by simp only [bind]; congr; funext x; exact bind_bind
theorem nox_ret {a : α} : (M.ret a).nox = .ret a := rfl
end M

/-- where one is: nothing is drawn, or the draws' dict stands at S -/
inductive Zw where
  | pu
  | dr (sa : Addr) (ns : List Int) (Pm : Prop) (S lw lc : Addr) (cells : List Int)
def Zw.w (T : List (Addr × Str)) (K : PySem.W.Frag) : Zw → Wld T
  | .pu => W0 T
  | .dr sa ns Pm S lw lc cells => WDr (WS T K sa ns Pm) S lw lc cells
def Zw.isS : Zw → Addr → Prop
  | .pu, _ => False
  | .dr _ _ _ S _ _ _, a => a = S
def Zw.len? : Zw → Addr → Option Nat
  | .pu, _ => none
  | .dr sa ns _ _ _ _ _, a => if a = sa then some ns.length else none
abbrev PX := Addr → List (Str × D) → Nat → Prop
/-- whatever is drawn, the tree ends in what P, X want; c counts the draws -/
def wpM {α : Type} (z : Zw) : M α → Nat → (α → Nat → Prop) → PX → Prop
  | .ret a, c, P, _ => P a c
  | .exc C fs, c, _, X => X C fs c
  | .fail, _, _, _ => False
  | .draw S n k, c, P, X => z.isS S ∧ 0 < n ∧ n ≤ 1000000 ∧ c + 1 ≤ CAP ∧ ∀ x, 0 ≤ x → x < n → wpM z (k x) (c + 1) P X
  | .ask a k, c, P, X => ∃ n, z.len? a = some n ∧ wpM z (k n) c P X
section
variable {α β : Type} {z : Zw}
theorem wpM_bind {f : α → M β} {X : PX} {P : β → Nat → Prop} : ∀ {m : M α} {c : Nat}, wpM z (m.bind f) c P X ↔ wpM z m c (fun a c2 => wpM z (f a) c2 P X) X
  | .ret _, _ => Iff.rfl
  | .exc _ _, _ => Iff.rfl
  | .fail, _ => Iff.rfl
  | .draw S n k, c => and_congr Iff.rfl (and_congr Iff.rfl (and_congr Iff.rfl (and_congr Iff.rfl (forall_congr' fun x => forall_congr' fun _ => forall_congr' fun _ => wpM_bind (m := k x)))))
  | .ask a k, c => exists_congr fun n => and_congr Iff.rfl (wpM_bind (m := k n))
theorem wpM_mono {P P' : α → Nat → Prop} {X X' : PX} (hP : ∀ a c, P a c → P' a c) (hX : ∀ C fs c, X C fs c → X' C fs c) : ∀ {m : M α} {c : Nat}, wpM z m c P X → wpM z m c P' X'
  | .ret _, _, h => hP _ _ h
  | .exc _ _, _, h => hX _ _ _ h
  | .fail, _, h => h
  | .draw S n k, c, ⟨h1, h2, h3, h4, h⟩ => ⟨h1, h2, h3, h4, fun x h0 h1 => wpM_mono hP hX (h x h0 h1)⟩
  | .ask a k, c, ⟨n, h1, h⟩ => ⟨n, h1, wpM_mono hP hX h⟩
theorem wpM_nox {P : α → Nat → Prop} {X : PX} : ∀ {m : M α} {c : Nat}, wpM z m.nox c P X → wpM z m c P fun _ _ _ => False
  | .ret _, _, h => h
  | .exc _ _, _, h => h
  | .fail, _, h => h
  | .draw S n k, c, ⟨h1, h2, h3, h4, h⟩ => ⟨h1, h2, h3, h4, fun x h0 h1 => wpM_nox (h x h0 h1)⟩
  | .ask a k, c, ⟨n, h1, h⟩ => ⟨n, h1, wpM_nox h⟩
theorem wpM_cau {L : List Addr} {P : D → Nat → Prop} {X : PX} : ∀ {m : M α} {c : Nat}, wpM z (m.cau L) c P X → wpM z m c (fun _ c2 => P .non c2) fun C fs c2 => C ∈ L ∧ P (.exc C fs) c2
  | .ret _, _, h => h
  | .exc C fs, c, h => by
    unfold M.cau at h
    by_cases e : C ∈ L
    · rw [if_pos e] at h; exact ⟨e, h⟩
    · rw [if_neg e] at h; exact h.elim
  | .fail, _, h => h
  | .draw S n k, c, ⟨h1, h2, h3, h4, h⟩ => ⟨h1, h2, h3, h4, fun x h0 h1 => wpM_cau (h x h0 h1)⟩
  | .ask a k, c, ⟨n, h1, h⟩ => ⟨n, h1, wpM_cau h⟩
end

/-! ### judgements -/
section
variable (T : List (Addr × Str)) (K : PySem.W.Frag)
/-- what is wanted where something is raised -/
def XOk (W : Wld T) (E : XK) (G H : Hp) (X : PX) : Prop := ∀ C fs dd c2 G2 H2, Stp W G H G2 H2 → GOk W G2 H2 → W.J c2 H2 → XDat G2 dd fs → X C fs c2 → E (.ref C) dd H2
def SE (E : XK) (te : TE) (f : Env' → M D) : Prop := ∀ (z : Zw) c env (P : D → Nat → Prop) X, wpM z (f env) c P X → ∀ G0 H0 σ G H, At (z.w T K) G0 H0 c G H σ env → ∀ Q : VK,
  (∀ v d c2 G2 H2, Stp (z.w T K) G H G2 H2 → GOk (z.w T K) G2 H2 → (z.w T K).J c2 H2 → Rp G2 v d → P d c2 → Q v H2) → XOk T (z.w T K) E G H X → te σ H Q
def SN (E : XK) (te : TE) (f : Env' → M (List D)) : Prop := ∀ (z : Zw) c env (P : List D → Nat → Prop) X, wpM z (f env) c P X → ∀ G0 H0 σ G H, At (z.w T K) G0 H0 c G H σ env → ∀ Q : VK,
  (∀ p xs ds c2 G2 H2, Stp (z.w T K) G H G2 H2 → GOk (z.w T K) G2 H2 → (z.w T K).J c2 H2 → H2 p = some (.lst xs) → G2 p = none → Nf H p → ¬ (z.w T K).M p → RpL G2 xs ds → P ds c2 → Q (.ref p) H2) → XOk T (z.w T K) E G H X → te σ H Q
def SB (E : XK) (tt : TT) (f : Env' → M Bool) : Prop := ∀ (z : Zw) c env (P : Bool → Nat → Prop) X, wpM z (f env) c P X → ∀ G0 H0 σ G H, At (z.w T K) G0 H0 c G H σ env → ∀ Q : Bool → Hp → Prop,
  (∀ b c2 G2 H2, Stp (z.w T K) G H G2 H2 → GOk (z.w T K) G2 H2 → (z.w T K).J c2 H2 → P b c2 → Q b H2) → XOk T (z.w T K) E G H X → tt σ H Q
def SA (E : XK) (ta : TA) (f : Env' → M (List D)) : Prop := ∀ (z : Zw) c env (P : List D → Nat → Prop) X, wpM z (f env) c P X → ∀ G0 H0 σ G H, At (z.w T K) G0 H0 c G H σ env → ∀ Q : List V → Hp → Prop,
  (∀ vs ds c2 G2 H2, Stp (z.w T K) G H G2 H2 → GOk (z.w T K) G2 H2 → (z.w T K).J c2 H2 → RpL G2 vs ds → P ds c2 → Q vs H2) → XOk T (z.w T K) E G H X → ta σ H Q
def SI (E : XK) (wi : TI) (f : Env' → M (List D)) : Prop := ∀ (z : Zw) c env (P : List D → Nat → Prop) X, wpM z (f env) c P X → ∀ G0 H0 σ G H, At (z.w T K) G0 H0 c G H σ env → ∀ R : It → Hp → Prop,
  (∀ J items c2 G2 H2, Stp (z.w T K) G H G2 H2 → GOk (z.w T K) G2 H2 → (z.w T K).J c2 H2 → P items c2 → Its (z.w T K) J G2 items → R J H2) → XOk T (z.w T K) E G H X → wi σ H R
def SO (E : XK) (to : TO) (f : Env' → M (Option Int)) : Prop := ∀ (z : Zw) c env (P : Option Int → Nat → Prop) X, wpM z (f env) c P X → ∀ G0 H0 σ G H, At (z.w T K) G0 H0 c G H σ env → ∀ Q : Option Int → Hp → Prop,
  (∀ o c2 G2 H2, Stp (z.w T K) G H G2 H2 → GOk (z.w T K) G2 H2 → (z.w T K).J c2 H2 → P o c2 → Q o H2) → XOk T (z.w T K) E G H X → to σ H Q
/-- a target, whose names are us -/
def SG (g : TG) (us : List Nat) (f : D → Env' → Option Env') : Prop := ∀ (z : Zw) d env env', f d env = some env' → ∀ vs, (∀ u ∈ us, u ∈ vs) → TgC (z.w T K) g vs d env env'
inductive Out where
  | nx (env : Env') | rt (d : D) | bk (env : Env') | ct (env : Env')
def poM (E : XK) (P : Out → Nat → Prop) (X : PX) : Po := ⟨fun e c => P (.nx e) c, fun d c => P (.rt d) c, fun e c => P (.bk e) c, fun e c => P (.ct e) c, E, X⟩
def SS (E : XK) (ts : TS) (g : Env' → M Out) : Prop := ∀ (z : Zw) c env P X, wpM z (g env) c P X → Tr (z.w T K) ts env c (poM E P X)
/-- nothing may be raised -/
def XF : XK := fun _ _ _ => False
end
section
variable {T : List (Addr × Str)} {K : PySem.W.Frag} {E : XK}
variable {W : Wld T} {G H G1 H1 G2 H2 H0 : Hp} {G0 : Hp × Hp} {c c' k : Nat} {z : Zw}
theorem XOk.step {X : PX} (x : XOk T W E G H X) (s : Stp W G H G1 H1) : XOk T W E G1 H1 X := fun C fs dd c2 G2 H2 s2 => x C fs dd c2 G2 H2 (s.trans s2)
theorem XOk.none : XOk T W E G H (fun _ _ _ => False) := fun _ _ _ _ _ _ _ _ _ _ z => z.elim
/-! ### names, constants -/
def eVar (i : Nat) : Env' → M D := fun env => match env[i]? with
  | some (.dat d) => .ret d
  | _ => .fail
theorem se_var {i : Nat} : SE T K E (tVar i) (eVar i) := fun z c env P X h G0 H0 σ G H A Q q x => by
  unfold eVar at h
  cases e : env[i]? with
  | none => rw [e] at h; exact h.elim
  | some s =>
    rw [e] at h
    cases s with
    | dat d =>
      obtain ⟨v, e2, r⟩ := A.env.dat i d e
      exact ⟨v, e2, q v d c G H Stp.refl A.gok A.j r h⟩
    | emp => exact h.elim
    | mu ds => exact h.elim
    | md kvs => exact h.elim
def eC (d : D) : Env' → M D := fun _ => .ret d
theorem se_c {v : V} {d : D} (h : ∀ G, Rp G v d) : SE T K E (tC v) (eC d) := fun z c env P X p G0 H0 σ G H A Q q x => q v d c G H Stp.refl A.gok A.j (h G) p
theorem se_int {i : Int} : SE T K E (tC (.int i)) (eC (.int i)) := se_c fun _ => .int i
theorem se_bl {b : Bool} : SE T K E (tC (.bl b)) (eC (.bl b)) := se_c fun _ => .bl b
theorem se_non : SE T K E (tC .non) (eC .non) := se_c fun _ => .non
theorem se_str {s : Str} : SE T K E (tC (.str s)) (eC (.str s)) := se_c fun _ => .str s
theorem se_raw {v : V} : SE T K E (tC v) (eC (.raw v)) := se_c fun _ => .raw v
/-! ### arguments, displays -/
def aNil : Env' → M (List D) := fun _ => .ret []
def aCons (f : Env' → M D) (g : Env' → M (List D)) : Env' → M (List D) := fun env => (f env).bind fun d => (g env).bind fun ds => .ret (d :: ds)
theorem sa_nil : SA T K E tNil aNil := fun z c env P X p G0 H0 σ G H A Q q x => q [] [] c G H Stp.refl A.gok A.j .nil p
theorem sa_cons {te : TE} {ta : TA} {f : Env' → M D} {g : Env' → M (List D)} (h : SE T K E te f) (hr : SA T K E ta g) : SA T K E (tCons te ta) (aCons f g) := fun z c env P X p G0 H0 σ G H A Q q x =>
  h z c env _ X (wpM_bind.mp p) G0 H0 σ G H A _ (fun v d c1 G1 H1 s1 g1 j1 r1 p1 =>
    hr z c1 env _ X (wpM_bind.mp p1) G0 H0 σ G1 H1 (A.step s1 g1 j1) _ (fun vs ds c2 G2 H2 s2 g2 j2 r2 p2 => q (v :: vs) (d :: ds) c2 G2 H2 (s1.trans s2) g2 j2 (.cons (r1.mono s2.gg) r2) p2) (x.step s1)) x
def aStar (f : Env' → M D) (g : Env' → M (List D)) : Env' → M (List D) := fun env => (f env).bind fun d => match d with
  | .tup es => (g env).bind fun ds => .ret (es ++ ds)
  | .lst es => (g env).bind fun ds => .ret (es ++ ds)
  | _ => .fail
theorem sa_star {te : TE} {ta : TA} {f : Env' → M D} {g : Env' → M (List D)} (h : SE T K E te f) (hr : SA T K E ta g) : SA T K E (StX.tStar K te ta) (aStar f g) := fun z c env P X p G0 H0 σ G H A Q q x =>
  h z c env _ X (wpM_bind.mp p) G0 H0 σ G H A _ (fun v d c1 G1 H1 s1 g1 j1 r1 p1 => by
    cases r1 with
    | tup ha ra =>
      exact ⟨_, _, rfl, .inl (sqT_of g1 ha), hr z c1 env _ X (wpM_bind.mp p1) G0 H0 σ G1 H1 (A.step s1 g1 j1) _ (fun vs ds c2 G2 H2 s2 g2 j2 r2 p2 => q _ _ c2 G2 H2 (s1.trans s2) g2 j2 ((ra.mono s2.gg).app r2) p2) (x.step s1)⟩
    | lst ha ra =>
      exact ⟨_, _, rfl, .inr (sqL_of g1 ha), hr z c1 env _ X (wpM_bind.mp p1) G0 H0 σ G1 H1 (A.step s1 g1 j1) _ (fun vs ds c2 G2 H2 s2 g2 j2 r2 p2 => q _ _ c2 G2 H2 (s1.trans s2) g2 j2 ((ra.mono s2.gg).app r2) p2) (x.step s1)⟩
    | _ => exact p1.elim) x
/-- no longer than a list may be -/
def szM {α : Type} (n : Nat) (m : M α) : M α := if n ≤ 100000 then m else .fail
theorem szM_pos {α : Type} {n : Nat} {m : M α} (h : n ≤ 100000) : szM n m = m := if_pos h
theorem szM_wp {α : Type} {n : Nat} {m : M α} {P : α → Nat → Prop} {X : PX} (h : wpM z (szM n m) c P X) : n ≤ 100000 ∧ wpM z m c P X := by
  unfold szM at h
  by_cases e : n ≤ 100000
  · rw [if_pos e] at h; exact ⟨e, h⟩
  · rw [if_neg e] at h; exact h.elim
def eTup (g : Env' → M (List D)) : Env' → M D := fun env => (g env).bind fun ds => szM ds.length (.ret (.tup ds))
def eLst (g : Env' → M (List D)) : Env' → M D := fun env => (g env).bind fun ds => szM ds.length (.ret (.lst ds))
theorem se_tup {ta : TA} {g : Env' → M (List D)} (h : SA T K E ta g) : SE T K E (tTup ta) (eTup g) := fun z c env P X p G0 H0 σ G H A Q q x =>
  h z c env _ X (wpM_bind.mp p) G0 H0 σ G H A _ (fun vs ds c1 G1 H1 s1 g1 j1 r1 p1 => by
    obtain ⟨hz, p1⟩ := szM_wp p1
    exact ⟨by rw [r1.len]; exact Nat.le_trans hz (by decide), fun p hp =>
      q (.ref p) _ c1 _ _ (s1.trans (stp_new g1 hp)) (gok_new g1 j1 hp (noTb_tup _)) (J_new j1 hp) (.tup upd_same (r1.mono (same_new (g1.none hp) _))) p1⟩) x
/-- a fresh list as data -/
def frzM (g : Env' → M (List D)) : Env' → M D := fun env => (g env).bind fun ds => .ret (.lst ds)
theorem se_sn {te : TE} {g : Env' → M (List D)} (h : SN T K E te g) : SE T K E te (frzM g) := fun z c env P X p G0 H0 σ G H A Q q x =>
  h z c env _ X (wpM_bind.mp p) G0 H0 σ G H A Q (fun p xs ds c2 G2 H2 s g j hp2 gp nf m r pd => q (.ref p) (.lst ds) c2 (upd G2 p (.lst xs)) H2 (stp_frz s nf gp) (gok_frz g hp2 (noTb_lst _) m) j (.lst upd_same (r.mono (same_new gp _))) pd) x
def nLst (g : Env' → M (List D)) : Env' → M (List D) := fun env => (g env).bind fun ds => szM ds.length (.ret ds)
theorem sn_lst {ta : TA} {g : Env' → M (List D)} (h : SA T K E ta g) : SN T K E (tLst ta) (nLst g) := fun z c env P X p G0 H0 σ G H A Q q x =>
  h z c env _ X (wpM_bind.mp p) G0 H0 σ G H A _ (fun vs ds c1 G1 H1 s1 g1 j1 r1 p1 => by
    obtain ⟨hz, p1⟩ := szM_wp p1
    exact ⟨by rw [r1.len]; exact Nat.le_trans hz (by decide), fun p hp =>
      q p vs ds c1 G1 _ (stp_upd s1 (s1.dom p (nf_none hp)) (noTb_lst _)) (gok_upd g1 (g1.none hp)) (J_new j1 hp) upd_same (g1.none hp) (s1.dom p (nf_none hp)) (fun m => (z.w T K).mtr j1 m (nf_none hp)) r1 p1⟩) x
theorem se_lst {ta : TA} {g : Env' → M (List D)} (h : SA T K E ta g) : SE T K E (tLst ta) (frzM (nLst g)) := se_sn (sn_lst h)
/-! ### operators by values -/
def OpOk (T : List (Addr × Str)) (r : R2) (f : D → D → M D) : Prop := ∀ d1 d2, f d1 d2 = .fail ∨ ∃ d, f d1 d2 = .ret d ∧ ∀ W : Wld T, RD2 W r d1 d2 d
def UnOk (T : List (Addr × Str)) (r : V → Hp → VK → Prop) (f : D → M D) : Prop := ∀ d1, f d1 = .fail ∨ ∃ d, f d1 = .ret d ∧ ∀ W : Wld T, RD1 W r d1 d
/-- a built-in function, by values -/
def BfOk (T : List (Addr × Str)) (K : PySem.W.Frag) (r : List V → Hp → VK → Prop) (f : List D → M D) : Prop := ∀ (z : Zw) c ds (P : D → Nat → Prop) X, wpM z (f ds) c P X → ∀ G H vs, GOk (z.w T K) G H → (z.w T K).J c H → RpL G vs ds → ∀ Q : VK,
  (∀ v d c2 G2 H2, Stp (z.w T K) G H G2 H2 → GOk (z.w T K) G2 H2 → (z.w T K).J c2 H2 → Rp G2 v d → P d c2 → Q v H2) → r vs H Q
theorem bf_of {r : List V → Hp → VK → Prop} {f : List D → M D} (h : ∀ ds, f ds = .fail ∨ ∃ d, f ds = .ret d ∧ ∀ W : Wld T, RDL W r ds d) : BfOk T K r f := fun z c ds P X p G H vs g j rv Q q => by
  rcases h ds with e | ⟨d, e, hr⟩
  · rw [e] at p; exact p.elim
  · rw [e] at p
    exact hr _ c G H vs g j rv Q fun v G2 H2 s2 g2 j2 r2 => q v d c G2 H2 s2 g2 j2 r2 p
def eOp (o : D → D → M D) (f g : Env' → M D) : Env' → M D := fun env => (f env).bind fun a => (g env).bind fun b => o a b
theorem se_op {r : R2} {o : D → D → M D} {ta tb : TE} {f g : Env' → M D} (ho : OpOk T r o) (ha : SE T K E ta f) (hb : SE T K E tb g) : SE T K E (tOp r ta tb) (eOp o f g) := fun z c env P X p G0 H0 σ G H A Q q x =>
  ha z c env _ X (wpM_bind.mp p) G0 H0 σ G H A _ (fun v1 d1 c1 G1 H1 s1 g1 j1 r1 p1 =>
    hb z c1 env _ X (wpM_bind.mp p1) G0 H0 σ G1 H1 (A.step s1 g1 j1) _ (fun v2 d2 c2 G2 H2 s2 g2 j2 r2 p2 => by
      rcases ho d1 d2 with e | ⟨d, e, hr⟩
      · rw [e] at p2; exact p2.elim
      · rw [e] at p2
        exact hr _ c2 G2 H2 v1 v2 g2 j2 (r1.mono s2.gg) r2 Q fun v G3 H3 s3 g3 j3 r3 => q v d c2 G3 H3 ((s1.trans s2).trans s3) g3 j3 r3 p2) (x.step s1)) x
def eUn (o : D → M D) (f : Env' → M D) : Env' → M D := fun env => (f env).bind o
theorem se_un {r : V → Hp → VK → Prop} {o : D → M D} {ta : TE} {f : Env' → M D} (ho : UnOk T r o) (ha : SE T K E ta f) : SE T K E (tUn r ta) (eUn o f) := fun z c env P X p G0 H0 σ G H A Q q x =>
  ha z c env _ X (wpM_bind.mp p) G0 H0 σ G H A _ (fun v1 d1 c1 G1 H1 s1 g1 j1 r1 p1 => by
      rcases ho d1 with e | ⟨d, e, hr⟩
      · rw [e] at p1; exact p1.elim
      · rw [e] at p1
        exact hr _ c1 G1 H1 v1 g1 j1 r1 Q fun v G3 H3 s3 g3 j3 r3 => q v d c1 G3 H3 (s1.trans s3) g3 j3 r3 p1) x
def eB (o : List D → M D) (g : Env' → M (List D)) : Env' → M D := fun env => (g env).bind o
theorem se_b {r : List V → Hp → VK → Prop} {o : List D → M D} {ta : TA} {g : Env' → M (List D)} (ho : BfOk T K r o) (ha : SA T K E ta g) : SE T K E (tCB r ta) (eB o g) := fun z c env P X p G0 H0 σ G H A Q q x =>
  ha z c env _ X (wpM_bind.mp p) G0 H0 σ G H A _ (fun vs ds c1 G1 H1 s1 g1 j1 r1 p1 =>
    ho z c1 ds P X p1 G1 H1 vs g1 j1 r1 Q fun v d c2 G3 H3 s3 g3 j3 r3 p3 => q v d c2 G3 H3 (s1.trans s3) g3 j3 r3 p3) x
/-! ### tests -/
def asB : D → M Bool
  | .bl b => .ret b
  | _ => .fail
def bV (f : Env' → M D) : Env' → M Bool := fun env => (f env).bind asB
theorem sb_test {te : TE} {f : Env' → M D} (h : SE T K E te f) : SB T K E (tTest te) (bV f) := fun z c env P X p G0 H0 σ G H A Q q x =>
  h z c env _ X (wpM_bind.mp p) G0 H0 σ G H A _ (fun v d c1 G1 H1 s1 g1 j1 r1 p1 => by
    cases r1 with
    | bl b => exact ⟨b, rfl, q b c1 G1 H1 s1 g1 j1 p1⟩
    | _ => exact p1.elim) x
theorem sb_B {te : TE} {f : Env' → M D} (h : SE T K E te f) : SB T K E (tB te) (bV f) := sb_test h
def bAnd (f g : Env' → M Bool) : Env' → M Bool := fun env => (f env).bind fun b => if b then g env else .ret false
def bOr (f g : Env' → M Bool) : Env' → M Bool := fun env => (f env).bind fun b => if b then .ret true else g env
def bNot (f : Env' → M Bool) : Env' → M Bool := fun env => (f env).bind fun b => .ret (!b)
theorem sb_and {t u : TT} {f g : Env' → M Bool} (h1 : SB T K E t f) (h2 : SB T K E u g) : SB T K E (tAnd t u) (bAnd f g) := fun z c env P X p G0 H0 σ G H A Q q x =>
  h1 z c env _ X (wpM_bind.mp p) G0 H0 σ G H A _ (fun b c1 G1 H1 s1 g1 j1 p1 => by
    cases b with
    | true => exact h2 z c1 env P X p1 G0 H0 σ G1 H1 (A.step s1 g1 j1) Q (fun b c2 G2 H2 s2 g2 j2 p2 => q b c2 G2 H2 (s1.trans s2) g2 j2 p2) (x.step s1)
    | false => exact q false c1 G1 H1 s1 g1 j1 p1) x
theorem sb_or {t u : TT} {f g : Env' → M Bool} (h1 : SB T K E t f) (h2 : SB T K E u g) : SB T K E (tOr t u) (bOr f g) := fun z c env P X p G0 H0 σ G H A Q q x =>
  h1 z c env _ X (wpM_bind.mp p) G0 H0 σ G H A _ (fun b c1 G1 H1 s1 g1 j1 p1 => by
    cases b with
    | true => exact q true c1 G1 H1 s1 g1 j1 p1
    | false => exact h2 z c1 env P X p1 G0 H0 σ G1 H1 (A.step s1 g1 j1) Q (fun b c2 G2 H2 s2 g2 j2 p2 => q b c2 G2 H2 (s1.trans s2) g2 j2 p2) (x.step s1)) x
theorem sb_not {t : TT} {f : Env' → M Bool} (h1 : SB T K E t f) : SB T K E (tNot t) (bNot f) := fun z c env P X p G0 H0 σ G H A Q q x =>
  h1 z c env _ X (wpM_bind.mp p) G0 H0 σ G H A _ (fun b c1 G1 H1 s1 g1 j1 p1 => q (!b) c1 G1 H1 s1 g1 j1 p1) x
def bYes : Env' → M Bool := fun _ => .ret true
theorem sb_yes : SB T K E tYes bYes := fun z c env P X p G0 H0 σ G H A Q q x => q true c G H Stp.refl A.gok A.j p
def eAnd (f g : Env' → M D) : Env' → M D := fun env => (f env).bind fun d => (asB d).bind fun b => if b then g env else .ret (.bl false)
def eOr (f g : Env' → M D) : Env' → M D := fun env => (f env).bind fun d => (asB d).bind fun b => if b then .ret (.bl true) else g env
def eNot (f : Env' → M D) : Env' → M D := fun env => (f env).bind fun d => (asB d).bind fun b => .ret (.bl (!b))
theorem se_and {ta tb : TE} {f g : Env' → M D} (h1 : SE T K E ta f) (h2 : SE T K E tb g) : SE T K E (tAndV ta tb) (eAnd f g) := fun z c env P X p G0 H0 σ G H A Q q x =>
  h1 z c env _ X (wpM_bind.mp p) G0 H0 σ G H A _ (fun v d c1 G1 H1 s1 g1 j1 r1 p1 => by
    cases r1 with
    | bl b =>
      refine ⟨b, rfl, ?_⟩
      cases b with
      | true => exact h2 z c1 env P X p1 G0 H0 σ G1 H1 (A.step s1 g1 j1) Q (fun v d c2 G2 H2 s2 g2 j2 r2 p2 => q v d c2 G2 H2 (s1.trans s2) g2 j2 r2 p2) (x.step s1)
      | false => exact q _ _ c1 G1 H1 s1 g1 j1 (.bl _) p1
    | _ => exact p1.elim) x
theorem se_or {ta tb : TE} {f g : Env' → M D} (h1 : SE T K E ta f) (h2 : SE T K E tb g) : SE T K E (tOrV ta tb) (eOr f g) := fun z c env P X p G0 H0 σ G H A Q q x =>
  h1 z c env _ X (wpM_bind.mp p) G0 H0 σ G H A _ (fun v d c1 G1 H1 s1 g1 j1 r1 p1 => by
    cases r1 with
    | bl b =>
      refine ⟨b, rfl, ?_⟩
      cases b with
      | true => exact q _ _ c1 G1 H1 s1 g1 j1 (.bl _) p1
      | false => exact h2 z c1 env P X p1 G0 H0 σ G1 H1 (A.step s1 g1 j1) Q (fun v d c2 G2 H2 s2 g2 j2 r2 p2 => q v d c2 G2 H2 (s1.trans s2) g2 j2 r2 p2) (x.step s1)
    | _ => exact p1.elim) x
theorem se_not {ta : TE} {f : Env' → M D} (h1 : SE T K E ta f) : SE T K E (tNotV ta) (eNot f) := fun z c env P X p G0 H0 σ G H A Q q x =>
  h1 z c env _ X (wpM_bind.mp p) G0 H0 σ G H A _ (fun v d c1 G1 H1 s1 g1 j1 r1 p1 => by
    cases r1 with
    | bl b => exact ⟨b, rfl, q _ _ c1 G1 H1 s1 g1 j1 (.bl _) p1⟩
    | _ => exact p1.elim) x
def eIf (t : Env' → M Bool) (f g : Env' → M D) : Env' → M D := fun env => (t env).bind fun b => if b then f env else g env
theorem se_if {t : TT} {ta tb : TE} {b : Env' → M Bool} {f g : Env' → M D} (h : SB T K E t b) (h1 : SE T K E ta f) (h2 : SE T K E tb g) : SE T K E (tIf t ta tb) (eIf b f g) := fun z c env P X p G0 H0 σ G H A Q q x =>
  h z c env _ X (wpM_bind.mp p) G0 H0 σ G H A _ (fun b c1 G1 H1 s1 g1 j1 p1 => by
    cases b with
    | true => exact h1 z c1 env P X p1 G0 H0 σ G1 H1 (A.step s1 g1 j1) Q (fun v d c2 G2 H2 s2 g2 j2 r2 p2 => q v d c2 G2 H2 (s1.trans s2) g2 j2 r2 p2) (x.step s1)
    | false => exact h2 z c1 env P X p1 G0 H0 σ G1 H1 (A.step s1 g1 j1) Q (fun v d c2 G2 H2 s2 g2 j2 r2 p2 => q v d c2 G2 H2 (s1.trans s2) g2 j2 r2 p2) (x.step s1)) x
def eChain (o o' : D → D → M D) (f g h : Env' → M D) : Env' → M D := fun env => (f env).bind fun a => (g env).bind fun b => (o a b).bind fun d => (asB d).bind fun k => if k then (h env).bind fun e => o' b e else .ret (.bl false)
theorem se_chain {r r' : R2} {o o' : D → D → M D} {ta tb tc : TE} {f g h : Env' → M D} (ho : OpOk T r o) (ho' : OpOk T r' o') (ha : SE T K E ta f) (hb : SE T K E tb g) (hc : SE T K E tc h) : SE T K E (tChain r r' ta tb tc) (eChain o o' f g h) := fun z c env P X p G0 H0 σ G H A Q q x =>
  ha z c env _ X (wpM_bind.mp p) G0 H0 σ G H A _ (fun v1 d1 c1 G1 H1 s1 g1 j1 r1 p1 =>
    hb z c1 env _ X (wpM_bind.mp p1) G0 H0 σ G1 H1 (A.step s1 g1 j1) _ (fun v2 d2 c2 G2 H2 s2 g2 j2 r2 p2 => by
      rcases ho d1 d2 with e | ⟨d, e, hr⟩
      · rw [e] at p2; exact p2.elim
      · rw [e] at p2
        refine hr _ c2 G2 H2 v1 v2 g2 j2 (r1.mono s2.gg) r2 _ fun v G3 H3 s3 g3 j3 r3 => ?_
        cases r3 with
        | bl b =>
          refine ⟨b, rfl, ?_⟩
          have s123 := (s1.trans s2).trans s3
          cases b with
          | false => exact q _ _ c2 G3 H3 s123 g3 j3 (.bl _) p2
          | true =>
            refine hc z c2 env _ X (wpM_bind.mp p2) G0 H0 σ G3 H3 (A.step s123 g3 j3) _ (fun v4 d4 c4 G4 H4 s4 g4 j4 r4 p4 => ?_) (x.step s123)
            rcases ho' d2 d4 with e' | ⟨d', e', hr'⟩
            · rw [e'] at p4; exact p4.elim
            · rw [e'] at p4
              exact hr' _ c4 G4 H4 v2 v4 g4 j4 ((r2.mono s3.gg).mono s4.gg) r4 Q fun v5 G5 H5 s5 g5 j5 r5 => q v5 d' c4 G5 H5 ((s123.trans s4).trans s5) g5 j5 r5 p4
        | _ => exact p2.elim) (x.step s1)) x
/-! ### slices' parts -/
def oNone : Env' → M (Option Int) := fun _ => .ret none
def oSome (f : Env' → M D) : Env' → M (Option Int) := fun env => (f env).bind fun d => match d with
  | .int i => .ret (some i)
  | _ => .fail
theorem so_none : SO T K E tNoPart oNone := fun z c env P X p G0 H0 σ G H A Q q x => q none c G H Stp.refl A.gok A.j p
theorem so_some {te : TE} {f : Env' → M D} (h : SE T K E te f) : SO T K E (tPart te) (oSome f) := fun z c env P X p G0 H0 σ G H A Q q x =>
  h z c env _ X (wpM_bind.mp p) G0 H0 σ G H A _ (fun v d c1 G1 H1 s1 g1 j1 r1 p1 => by
    cases r1 with
    | int i => exact ⟨i, rfl, q (some i) c1 G1 H1 s1 g1 j1 p1⟩
    | _ => exact p1.elim) x
end
end Fx

set_option Elab.async false
set_option linter.all false
set_option maxRecDepth 100000
set_option maxHeartbeats 4000000
/-! Slices, what is walked, comprehensions, statements, loops. -/
namespace Fx
open PySem PySem.Spec PyProof.Rows L2 LamX
section
variable {T : List (Addr × Str)} {K : PySem.W.Frag} {E : XK}
variable {W : Wld T} {G H G1 H1 G2 H2 H0 : Hp} {G0 : Hp × Hp} {c c' k : Nat} {z : Zw}
/-! ### slices -/
def slM (d : D) (lo hi : Option Int) : M D := match d with
  | .lst ds => .ret (.lst (cutD ds lo hi))
  | .tup ds => .ret (.tup (cutD ds lo hi))
  | .str s => if s.length ≤ 100000 then .ret (.str (cutS s lo hi)) else .fail
  | _ => .fail
def rSlU (K : PySem.W.Frag) : V → Option Int → Option Int → Hp → VK → Prop := fun x lo hi H Q => rSlL K x lo hi H Q ∨ rSlA K x lo hi H Q ∨ rSlS x lo hi H Q
theorem slr_or {X : Cx} {r r' : V → Option Int → Option Int → Hp → VK → Prop} (h : L2.SlR X r) (h' : L2.SlR X r') : L2.SlR X (fun x lo hi H Q => r x lo hi H Q ∨ r' x lo hi H Q) := by
  intro pins s σ H x v vl vu lo hi sl Q I rx hs pl pu h2
  exact h2.elim (fun h2 => h pins s σ H x v vl vu lo hi sl Q I rx hs pl pu h2) fun h2 => h' pins s σ H x v vl vu lo hi sl Q I rx hs pl pu h2
theorem kslU {X : Cx} (K : PySem.W.Frag) (h : X.K = K := by rfl) : L2.SlR X (rSlU K) := by subst h; exact slr_or sl_list (slr_or sl_tupA sl_str)
theorem rd_sl {d d' : D} {lo hi : Option Int} (e : slM d lo hi = .ret d') {v : V} (g : GOk W G H) (j : W.J c H) (r : Rp G v d) {Q : VK} (q : Kt W c G H d' Q) : rSlU K v lo hi H Q := by
  cases r with
  | @lst a xs ds h1 l3 =>
    cases e
    refine .inl ⟨_, xs, rfl, sqL_of g h1, fun p hp => ?_⟩
    have e : RpL G (cutV xs lo hi) (cutD ds lo hi) := by
      unfold cutV cutD
      rw [l3.len]
      exact RpL.take _ (RpL.drop _ l3)
    exact q.newL g j hp e
  | @tup a xs ds h1 l3 =>
    cases e
    have e : RpL G (cutV xs lo hi) (cutD ds lo hi) := by
      unfold cutV cutD
      rw [l3.len]
      exact RpL.take _ (RpL.drop _ l3)
    refine .inr (.inl ⟨_, xs, rfl, sqT_of g h1, fun w => ?_, fun _ p hp => q.newT g j hp e⟩)
    have ew : cutD ds lo hi = ds := by
      unfold cutD
      rw [l3.len] at w
      rw [w.1, w.2, List.drop_zero, Nat.sub_zero, List.take_length]
    rw [ew] at q
    exact q.here g j (.tup h1 l3)
  | str s =>
    have e : (if s.length ≤ 100000 then M.ret (D.str (cutS s lo hi)) else .fail) = .ret d' := e
    by_cases hs : s.length ≤ 100000
    · rw [if_pos hs] at e
      cases e
      exact .inr (.inr ⟨s, rfl, Nat.le_trans hs (by decide), q.here g j (.str _)⟩)
    · rw [if_neg hs] at e; cases e
  | _ => cases e
def eSl (f : Env' → M D) (l h : Env' → M (Option Int)) : Env' → M D := fun env => (f env).bind fun d => (l env).bind fun lo => (h env).bind fun hi => slM d lo hi
theorem slM_cases (d : D) (lo hi : Option Int) : slM d lo hi = .fail ∨ ∃ d', slM d lo hi = .ret d' := by
  cases d with
  | str s =>
    show (if s.length ≤ 100000 then M.ret (D.str (cutS s lo hi)) else .fail) = .fail ∨ ∃ d', (if s.length ≤ 100000 then M.ret (D.str (cutS s lo hi)) else .fail) = .ret d'
    by_cases hs : s.length ≤ 100000
    · rw [if_pos hs]; exact .inr ⟨_, rfl⟩
    · rw [if_neg hs]; exact .inl rfl
  | lst _ => exact .inr ⟨_, rfl⟩
  | tup _ => exact .inr ⟨_, rfl⟩
  | _ => exact .inl rfl
theorem se_sl {te : TE} {tl th : TO} {f : Env' → M D} {l h : Env' → M (Option Int)} (hf : SE T K E te f) (hl : SO T K E tl l) (hh : SO T K E th h) : SE T K E (tSl (rSlU K) te tl th) (eSl f l h) := fun z c env P X p G0 H0 σ G H A Q q x =>
  hf z c env _ X (wpM_bind.mp p) G0 H0 σ G H A _ (fun v d c1 G1 H1 s1 g1 j1 r1 p1 =>
    hl z c1 env _ X (wpM_bind.mp p1) G0 H0 σ G1 H1 (A.step s1 g1 j1) _ (fun lo c2 G2 H2 s2 g2 j2 p2 =>
      hh z c2 env _ X (wpM_bind.mp p2) G0 H0 σ G2 H2 ((A.step s1 g1 j1).step s2 g2 j2) _ (fun hi c3 G3 H3 s3 g3 j3 p3 => by
        rcases slM_cases d lo hi with e | ⟨d', e⟩
        · rw [e] at p3; exact p3.elim
        · rw [e] at p3
          exact rd_sl e g3 j3 ((r1.mono s2.gg).mono s3.gg) fun v G4 H4 s4 g4 j4 r4 => q v d' c3 G4 H4 (((s1.trans s2).trans s3).trans s4) g4 j4 r4 p3) ((x.step s1).step s2)) (x.step s1)) x
def eRevT (f : Env' → M D) : Env' → M D := fun env => (f env).bind fun d => match d with
  | .tup ds => .ret (.tup ds.reverse)
  | _ => .fail
def eRevL (f : Env' → M D) : Env' → M D := fun env => (f env).bind fun d => match d with
  | .lst ds => .ret (.lst ds.reverse)
  | _ => .fail
/-! ### what is walked -/
/-- a list, a tuple, a dict's keys -/
def iU (K : PySem.W.Frag) (tl : TE) : TI := fun σ H R => tl σ H fun x H1 => (∃ a xs, x = .ref a ∧ SqL K H1 a xs ∧ R (Itl K a) H1) ∨ (∃ a xs, x = .ref a ∧ SqT K H1 a xs ∧ R (Itt K a) H1) ∨ ∃ d o kvs, x = .ref d ∧ H1 d = some (.frz o (.dK kvs)) ∧ R (Itk d o kvs) H1
theorem pi_U {X : Cx} {tg l : Expr} {tl : TE} (hl : PE X l tl) : PI X tg l (iU X.K tl) := ⟨fun pins s σ H R I h => thn (hl.run pins s σ H _ I h) fun v s1 ⟨x, H1, I1, r1, q1⟩ => by
  have one : ∀ b : Addr, b ∈ [s1.heap.objs.size] → FpOk X pins H1 b := fun b hb => by
    rw [List.mem_singleton.mp hb]
    exact I1.fpOk (Nat.le_refl _) (I1.hok.fresh (Nat.le_refl _))
  rcases q1 with ⟨a, xs, rfl, hq, q⟩ | ⟨a, xs, rfl, hq, q⟩ | ⟨d, o, kvs, rfl, hd, q⟩
  · obtain rfl : v = Value.ref a := r1
    obtain ⟨its, rv, pl, -⟩ := I1.list hq
    exact wpAny_pyIter_list pl.isList ⟨_, [s1.heap.objs.size], _, _, H1, rfl, I1.kept (t' := s1.toks) fun b o e => Heap.get?_push_of_some _ e, turn_list a _, ⟨_, Heap.get?_push_size _ rfl, rfl, rfl⟩, one, q⟩
  · obtain rfl : v = Value.ref a := r1
    obtain ⟨its, rv, pl, -⟩ := I1.tuple hq
    exact wpAny_pyIter_tuple (show s1.heap.IsTuple a its.toArray from pl) ⟨_, [s1.heap.objs.size], _, _, H1, rfl, I1.kept (t' := s1.toks) fun b o e => Heap.get?_push_of_some _ e, turn_tuple a _, ⟨_, Heap.get?_push_size _ rfl, rfl, rfl⟩, one, q⟩
  · obtain rfl : v = Value.ref d := r1
    obtain ⟨h1, h2, h3, es, ep, vs, h4, h5, -, -⟩ := I1.frzK hd
    exact iter_keys h1 h2 h3 h4 (pi_one (tk := s1.toks) I1 _ (turn_keys _ h4) ⟨_, Heap.get?_push_size _ rfl, rfl, by rw [h5] <;> rfl⟩ q)⟩
theorem kpi_U {X : Cx} (K : PySem.W.Frag) {tg l : Expr} {tl : TE} (hl : PE X l tl) (h : X.K = K := by rfl) : PI X tg l (iU K tl) := by subst h; exact pi_U hl
def itemsM : D → M (List D)
  | .lst ds => .ret ds
  | .tup ds => .ret ds
  | .dic kvs => .ret (kvs.map fun p => kD p.1)
  | _ => .fail
def iUM (f : Env' → M D) : Env' → M (List D) := fun env => (f env).bind itemsM
theorem si_U {te : TE} {f : Env' → M D} (h : SE T K E te f) : SI T K E (iU K te) (iUM f) := fun z c env P X p G0 H0 σ G H A R q x =>
  h z c env _ X (wpM_bind.mp p) G0 H0 σ G H A _ (fun v d c1 G1 H1 s1 g1 j1 r1 p1 => by
    cases r1 with
    | lst ha ra => exact .inl ⟨_, _, rfl, sqL_of g1 ha, q _ _ c1 G1 H1 s1 g1 j1 p1 (its_list ha ra)⟩
    | tup ha ra => exact .inr (.inl ⟨_, _, rfl, sqT_of g1 ha, q _ _ c1 G1 H1 s1 g1 j1 p1 (its_tup ha ra)⟩)
    | dic ha ra => exact .inr (.inr ⟨_, _, _, rfl, g1.same _ _ ha, q _ _ c1 G1 H1 s1 g1 j1 p1 (its_keys ha ra)⟩)
    | _ => exact p1.elim) x
/-- a number that is not great -/
def smI (a : Int) : Bool := Nat.ble a.natAbs 1000000
theorem smI_of {a : Int} (h : -1000000 ≤ a ∧ a ≤ 1000000) : smI a = true := Nat.ble_eq_true_of_le (by omega)
theorem smI_le {a : Int} (h : smI a = true) : -1000000 ≤ a ∧ a ≤ 1000000 := by
  have : a.natAbs ≤ 1000000 := Nat.le_of_ble_eq_true h
  omega
def rngM (a b : Int) : M (List D) := if (smI a && smI b) = true then .ret ((rgD a b).map .int) else .fail
def iRngM (g : Env' → M (List D)) : Env' → M (List D) := fun env => (g env).bind fun ds => match ds with
  | [.int b] => rngM 0 b
  | [.int a, .int b] => rngM a b
  | _ => .fail
theorem rngM_wp {a b : Int} {P : List D → Nat → Prop} {X : PX} (h : wpM z (rngM a b) c P X) : (-(2 ^ 62) ≤ a ∧ a < 2 ^ 62 ∧ -(2 ^ 62) ≤ b ∧ b < 2 ^ 62) ∧ P ((rgD a b).map .int) c := by
  unfold rngM at h
  split at h
  · rename_i hc
    rw [Bool.and_eq_true] at hc
    have h1 := smI_le hc.1
    have h2 := smI_le hc.2
    exact ⟨by omega, h⟩
  · exact h.elim
theorem its_rng {lo : Int} {n : Nat} {hi : Int} (e : (hi - lo).toNat = n) : Its W (Itr lo n) G ((rgD lo hi).map .int) := by
  have q := its_range (W := W) (G := G) (lo := lo) (n := n)
  unfold rgD
  rw [List.map_map, e]
  exact q
theorem si_rng1 {ta : TA} {g : Env' → M (List D)} (h : SA T K E ta g) : SI T K E (iRng1 ta) (fun env => (g env).bind fun ds => match ds with | [.int b] => rngM 0 b | _ => .fail) := fun z c env P X p G0 H0 σ G H A R q x =>
  h z c env _ X (wpM_bind.mp p) G0 H0 σ G H A _ (fun vs ds c1 G1 H1 s1 g1 j1 r1 p1 => by
    cases r1 with
    | nil => exact p1.elim
    | cons r2 r3 =>
      cases r3 with
      | cons r3 r4 => cases r2 <;> exact p1.elim
      | nil =>
        cases r2 with
        | int b =>
          obtain ⟨⟨h1, h2, h3, h4⟩, pp⟩ := rngM_wp p1
          exact ⟨b, rfl, h3, h4, q _ _ c1 G1 H1 s1 g1 j1 pp (its_rng (by rw [Int.sub_zero]))⟩
        | _ => exact p1.elim) x
theorem si_rng2 {ta : TA} {g : Env' → M (List D)} (h : SA T K E ta g) : SI T K E (iRng2 ta) (fun env => (g env).bind fun ds => match ds with | [.int a, .int b] => rngM a b | _ => .fail) := fun z c env P X p G0 H0 σ G H A R q x =>
  h z c env _ X (wpM_bind.mp p) G0 H0 σ G H A _ (fun vs ds c1 G1 H1 s1 g1 j1 r1 p1 => by
    cases r1 with
    | nil => exact p1.elim
    | cons r2 r3 =>
      cases r3 with
      | nil => cases r2 <;> exact p1.elim
      | cons r3 r4 =>
        cases r4 with
        | cons r4 r5 => cases r2 <;> cases r3 <;> exact p1.elim
        | nil =>
          cases r2 with
          | int a =>
            cases r3 with
            | int b =>
              obtain ⟨hh, pp⟩ := rngM_wp p1
              exact ⟨a, b, rfl, hh, q _ _ c1 G1 H1 s1 g1 j1 pp (its_rng rfl)⟩
            | _ => exact p1.elim
          | _ => exact p1.elim) x
/-- enumerate -/
def enumM : List D → M (List D)
  | [.lst ds] => .ret (ds.zipIdx.map fun p => .tup [.int (p.2 : Nat), p.1])
  | [.tup ds] => .ret (ds.zipIdx.map fun p => .tup [.int (p.2 : Nat), p.1])
  | _ => .fail
theorem si_enum {ta : TA} {g : Env' → M (List D)} (h : SA T K E ta g) : SI T K E (iEnumA K ta) (fun env => (g env).bind enumM) := fun z c env P X p G0 H0 σ G H A R q x =>
  h z c env _ X (wpM_bind.mp p) G0 H0 σ G H A _ (fun vs ds c1 G1 H1 s1 g1 j1 r1 p1 => by
    cases r1 with
    | nil => exact p1.elim
    | cons r2 r3 =>
      cases r3 with
      | cons r3 r4 => cases r2 <;> exact p1.elim
      | nil =>
        cases r2 with
        | lst ha ra => exact ⟨_, _, rfl, .inl ⟨sqL_of g1 ha, q _ _ c1 G1 H1 s1 g1 j1 p1 (its_enum ha ra)⟩⟩
        | tup ha ra => exact ⟨_, _, rfl, .inr ⟨sqT_of g1 ha, q _ _ c1 G1 H1 s1 g1 j1 p1 (its_enumT ha ra)⟩⟩
        | _ => exact p1.elim) x
/-- zip of two lists, two tuples -/
def zipM : List D → M (List D)
  | [.lst ds, .lst es] => .ret (List.zipWith (fun x y => .tup [x, y]) ds es)
  | [.tup ds, .tup es] => .ret (List.zipWith (fun x y => .tup [x, y]) ds es)
  | _ => .fail
theorem si_zip {ta : TA} {g : Env' → M (List D)} (h : SA T K E ta g) : SI T K E (RZ.iZipA K ta) (fun env => (g env).bind zipM) := fun z c env P X p G0 H0 σ G H A R q x =>
  h z c env _ X (wpM_bind.mp p) G0 H0 σ G H A _ (fun vs ds c1 G1 H1 s1 g1 j1 r1 p1 => by
    cases r1 with
    | nil => exact p1.elim
    | cons r2 r3 =>
      cases r3 with
      | nil => cases r2 <;> exact p1.elim
      | cons r3 r4 =>
        cases r4 with
        | cons r4 r5 => cases r2 <;> cases r3 <;> exact p1.elim
        | nil =>
          cases r2 with
          | lst ha ra =>
            cases r3 with
            | lst hb rb => exact ⟨_, _, _, _, rfl, .inl ⟨sqL_of g1 ha, sqL_of g1 hb, q _ _ c1 G1 H1 s1 g1 j1 p1 (its_zipL ha ra hb rb)⟩⟩
            | _ => exact p1.elim
          | tup ha ra =>
            cases r3 with
            | tup hb rb => exact ⟨_, _, _, _, rfl, .inr ⟨sqT_of g1 ha, sqT_of g1 hb, q _ _ c1 G1 H1 s1 g1 j1 p1 (its_zipT ha ra hb rb)⟩⟩
            | _ => exact p1.elim
          | _ => exact p1.elim) x
/-! ### targets -/
/-- a name -/
abbrev tgN (i : Nat) : D → Env' → Option Env' := fun d env => some (env.set i (.dat d))
theorem sg_name {i : Nat} : SG T K (gName i) [i] (fun d env => some (env.set i (.dat d))) := fun z d env env' e vs hv => by
  cases e
  exact tgc_name (hv i List.mem_cons_self)
/-- the parts of a tuple, one after another -/
def tgs : List (D → Env' → Option Env') → List D → Env' → Option Env'
  | [], [], env => some env
  | f :: fs, d :: ds, env => (f d env).bind (tgs fs ds)
  | _, _, _ => none
def SGs (T : List (Addr × Str)) (K : PySem.W.Frag) (g : TGs) (us : List Nat) (f : List (D → Env' → Option Env')) : Prop := ∀ (z : Zw) ds env env', tgs f ds env = some env' → ∀ vs, (∀ u ∈ us, u ∈ vs) → ∀ c G0 H0 σ G H xs, At (z.w T K) G0 H0 c G H σ env → RpL G xs ds → ∀ Q : L2.St → Hp → Prop, (∀ σ', wipe σ' vs = wipe σ vs → At (z.w T K) G0 H0 c G H σ' env' → Q σ' H) → g xs σ H Q
theorem sgs_nil : SGs T K gNil [] [] := fun z ds env env' e vs hv c G0 H0 σ G H xs A r Q q => by
  cases ds with
  | nil => cases e; cases r; exact ⟨rfl, q σ rfl A⟩
  | cons d ds => cases e
theorem sgs_cons {g : TG} {gs : TGs} {us ws : List Nat} {f : D → Env' → Option Env'} {fs : List (D → Env' → Option Env')} (h : SG T K g us f) (hs : SGs T K gs ws fs) : SGs T K (gCons g gs) (us ++ ws) (f :: fs) := fun z ds env env' e vs hv c G0 H0 σ G H xs A r Q q => by
  cases ds with
  | nil => cases e
  | cons d ds =>
    obtain ⟨e1, h1, h2⟩ := Option.bind_eq_some_iff.mp e
    cases r with
    | @cons v vs' _ _ rv rs =>
    refine ⟨v, vs', rfl, h z d env e1 h1 vs (fun u hu => hv u (List.mem_append_left _ hu)) c G0 H0 σ G H v A rv _ fun σ1 w1 A1 => ?_⟩
    exact hs z ds e1 env' h2 vs (fun u hu => hv u (List.mem_append_right _ hu)) c G0 H0 σ1 G H vs' A1 rs Q fun σ2 w2 A2 => q σ2 (w2.trans w1) A2
def tgT (f : List (D → Env' → Option Env')) : D → Env' → Option Env' := fun d env => match d with
  | .tup ds => if ds.length = f.length then tgs f ds env else none
  | _ => none
theorem sg_tup {g : TGs} {us : List Nat} {f : List (D → Env' → Option Env')} {n : Nat} (h : SGs T K g us f) (hn : f.length = n) : SG T K (gTup K n g) us (tgT f) := fun z d env env' e vs hv c G0 H0 σ G H v A r Q q => by
  cases r with
  | tup ha ra =>
    rename_i ds
    have e : (if ds.length = f.length then tgs f ds env else none) = some env' := e
    by_cases hl : ds.length = f.length
    · rw [if_pos hl] at e
      exact ⟨_, _, rfl, sqT_of A.gok ha, by rw [ra.len, hl, hn], h z _ env env' e vs hv c G0 H0 σ G H _ A ra Q q⟩
    · rw [if_neg hl] at e; cases e
  | _ => cases e
/-! ### comprehensions -/
def lcM (tg : D → Env' → Option Env') (t : Env' → M Bool) (f : Env' → M D) (env : Env') : List D → M (List D)
  | [] => .ret []
  | d :: r => match tg d env with
    | none => .fail
    | some e => (t e).nox.bind fun b => if b then (f e).nox.bind fun y => (lcM tg t f env r).bind fun ys => .ret (y :: ys) else lcM tg t f env r
def nLc (i : Env' → M (List D)) (tg : D → Env' → Option Env') (t : Env' → M Bool) (f : Env' → M D) (vs : List Nat) : Env' → M (List D) := fun env => (i env).bind fun l => szM l.length (lcM tg t f (wipeE env vs) l)
theorem sn_lc {wi : TI} {g : TG} {tt : TT} {te : TE} {us vs : List Nat} {i : Env' → M (List D)} {tg : D → Env' → Option Env'} {t : Env' → M Bool} {f : Env' → M D} (hi : SI T K E wi i) (hg : SG T K g us tg) (hv : ∀ u ∈ us, u ∈ vs) (ht : SB T K XF tt t) (hf : SE T K XF te f) : SN T K E (tLc wi g tt te vs) (nLc i tg t f vs) := fun z c env P X p G0 H0 σ G H A Q q x =>
  hi z c env _ X (wpM_bind.mp p) G0 H0 σ G H A _ (fun J l c1 G1 H1 s1 g1 j1 p1 its => by
    obtain ⟨hz, p1⟩ := szM_wp p1
    intro Dl hD
    have gD : G1 Dl = none := g1.none hD
    have mD : ¬ (z.w T K).M Dl := fun m => (z.w T K).mtr j1 m (nf_none hD)
    have nD := nf_none hD
    refine ⟨fun i m H' => m = l.length - i ∧ i ≤ l.length ∧ ∃ (G' : Hp) (acc : List V) (ds : List D) (c' : Nat), Stp (z.w T K) G1 H1 G' H' ∧ GOk (z.w T K) G' H' ∧ (z.w T K).J c' H' ∧ H' Dl = some (.lst acc) ∧ G' Dl = none ∧ RpL G' acc ds ∧ ds.length ≤ i ∧
      wpM z (lcM tg t f (wipeE env vs) (l.drop i)) c' (fun ys c2 => P (ds ++ ys) c2) X, ⟨l.length, by simp, Nat.zero_le _, G1, [], [], c1, stp_upd Stp.refl nD (noTb_lst _), gok_upd g1 gD, J_new j1 hD, upd_same, gD, .nil, Nat.le_refl _, p1⟩, ?_⟩
    rintro i m H' ⟨rfl, hil, G', acc, ds, c', s', g', j', hDl, gDl, rA, ol, pw⟩
    by_cases hlt : i < l.length
    · refine .inr ⟨its.go i G' H' g' s'.gg ⟨_, j'⟩ hlt, fun H'' => i + 1 ≤ l.length ∧ ∃ (G' : Hp) (acc : List V) (ds : List D) (c' : Nat), Stp (z.w T K) G1 H1 G' H'' ∧ GOk (z.w T K) G' H'' ∧ (z.w T K).J c' H'' ∧ H'' Dl = some (.lst acc) ∧ G' Dl = none ∧ RpL G' acc ds ∧ ds.length ≤ i + 1 ∧
        wpM z (lcM tg t f (wipeE env vs) (l.drop (i + 1))) c' (fun ys c2 => P (ds ++ ys) c2) X, fun H'' h => ⟨l.length - (i + 1), by omega, rfl, h⟩, fun y H2 hy => ?_⟩
      have hx : l[i]? = some l[i] := List.getElem?_eq_getElem hlt
      obtain ⟨G2, s2, g2, j2, r2⟩ := its.yld i l[i] _ G' H' y H2 g' s'.gg j' hx hy
      rw [List.drop_eq_getElem_cons hlt] at pw
      unfold lcM at pw
      have A2 := ((A.step s1 g1 j1).step (s'.trans s2) g2 j2).wipe vs
      cases hk : tg l[i] (wipeE env vs) with
      | none => rw [hk] at pw; exact pw.elim
      | some e =>
      rw [hk] at pw
      refine hg z _ _ _ hk vs hv _ _ _ _ _ _ y A2 r2 _ fun σ3 w3 A3 => ⟨w3.trans wipe_wipe, ?_⟩
      refine ht z _ e _ _ (wpM_nox (wpM_bind.mp pw)) _ _ _ _ _ A3 _ (fun b c3 G3 H3 s3 g3 j3 pb => ?_) XOk.none
      have s13 := (s'.trans s2).trans s3
      have d2 := s2.hh Dl _ hDl mD (noTb_lst _)
      have d3 := s3.hh Dl _ d2 mD (noTb_lst _)
      have n2 := s2.gone gDl hDl (noTb_lst _)
      have n3 := s3.gone n2 d2 (noTb_lst _)
      have rA3 := (rA.mono s2.gg).mono s3.gg
      cases b with
      | false => exact (if_neg Bool.false_ne_true).mpr ⟨hlt, G3, acc, ds, c3, s13, g3, j3, d3, n3, rA3, by omega, pb⟩
      | true =>
        refine (if_pos rfl).mpr ?_
        refine hf z c3 e _ _ (wpM_nox (wpM_bind.mp pb)) _ _ _ _ _ (A3.step s3 g3 j3) _ (fun y e c4 G4 H4 s4 g4 j4 r4 pe => ?_) XOk.none
        have d4 := s4.hh Dl _ d3 mD (noTb_lst _)
        have n4 := s4.gone n3 d3 (noTb_lst _)
        refine ⟨acc, d4, ?_, hlt, G4, acc ++ [y], ds ++ [e], c4, stp_upd (s13.trans s4) nD (noTb_lst _), gok_upd g4 n4, ?_, upd_same, n4, ?_, by simp; omega, ?_⟩
        · have := rA.len
          exact Nat.lt_of_lt_of_le (Nat.lt_succ_of_le (by omega : acc.length ≤ 100000)) (by decide)
        · exact (z.w T K).updl j4 mD d4
        · exact (rA3.mono s4.gg).app (.cons r4 .nil)
        · refine wpM_mono (fun ys c5 h => ?_) (fun _ _ _ h => h) (wpM_bind.mp pe)
          rw [List.append_assoc]
          exact h
    · have e : i = l.length := by omega
      subst e
      refine .inl ⟨its.stop _ G' H' g' s'.gg ⟨_, j'⟩ (Nat.le_refl _), ?_⟩
      have hDn : Nf H Dl := s1.dom Dl nD
      rw [List.drop_length] at pw
      have pw : P (ds ++ []) c' := pw
      rw [List.append_nil] at pw
      exact q Dl acc ds c' G' H' (s1.trans s') g' j' hDl gDl hDn mD rA pw) x
/-! ### statements -/
def sNx : Env' → M Out := fun env => .ret (.nx env)
def sBk : Env' → M Out := fun env => .ret (.bk env)
def sCt : Env' → M Out := fun env => .ret (.ct env)
theorem ss_nx : SS T K E tNext sNx := fun z c env P X p => tr_next p
theorem ss_bk : SS T K E tBreak sBk := fun z c env P X p => tr_break p
theorem ss_ct : SS T K E tCont sCt := fun z c env P X p => tr_cont p
def seqO (h : Env' → M Out) : Out → M Out
  | .nx e => h e
  | .rt d => .ret (.rt d)
  | .bk e => .ret (.bk e)
  | .ct e => .ret (.ct e)
def sSeq (g h : Env' → M Out) : Env' → M Out := fun env => (g env).bind (seqO h)
theorem Fits.xok {po : Po} {En : Ends} (F : Fits W G0 H0 po En) (st : Stp W G0.2 H0 G H) : XOk T W po.xE G H po.xP := fun C fs dd c2 G2 H2 s g j x p => F.xx C fs dd c2 G2 H2 (st.trans s) g j x p
theorem ss_seq {t u : TS} {g h : Env' → M Out} (h1 : SS T K E t g) (h2 : SS T K E u h) : SS T K E (tSeq t u) (sSeq g h) := fun z c env P X p G0 H0 σ G H A En F =>
  h1 z c env _ X (wpM_bind.mp p) G0 H0 σ G H A { En with nx := u En } ⟨fun σ2 e2 c2 G2 H2 A2 r => h2 z c2 e2 P X r G0 H0 σ2 G2 H2 A2 En F, fun v d c2 G2 H2 s g j r p => F.rt v d c2 G2 H2 s g j r p, fun σ2 e2 c2 G2 H2 A2 r => F.bk σ2 e2 c2 G2 H2 A2 r, fun σ2 e2 c2 G2 H2 A2 r => F.ct σ2 e2 c2 G2 H2 A2 r, F.xx⟩
/-- target = e -/
def asgO (tg : D → Env' → Option Env') (env : Env') (d : D) : M Out := match tg d env with
  | some e => .ret (.nx e)
  | none => .fail
def sAsg (f : Env' → M D) (tg : D → Env' → Option Env') : Env' → M Out := fun env => (f env).bind (asgO tg env)
theorem SG.ok {g : TG} {us : List Nat} {tg : D → Env' → Option Env'} (h : SG T K g us tg) {d : D} {env env' : Env'} (e : tg d env = some env') : TgOk (z.w T K) g d env env' := fun c G0 H0 σ G H v A r Q q =>
  h z d env env' e us (fun _ h => h) c G0 H0 σ G H v A r Q fun σ' _ A' => q σ' A'
theorem ss_asg {te : TE} {g : TG} {us : List Nat} {f : Env' → M D} {tg : D → Env' → Option Env'} (hf : SE T K E te f) (hg : SG T K g us tg) : SS T K E (tAsg te g) (sAsg f tg) := fun z c env P X p G0 H0 σ G H A En F =>
  hf z c env _ X (wpM_bind.mp p) G0 H0 σ G H A _ (fun v d c1 G1 H1 s1 g1 j1 r1 p1 => by
    unfold asgO at p1
    cases e : tg d env with
    | none => rw [e] at p1; exact p1.elim
    | some e2 =>
      rw [e] at p1
      exact hg.ok e _ _ _ _ _ _ _ (A.step s1 g1 j1) r1 _ fun σ' A' => F.nx _ _ _ _ _ A' p1) (F.xok A.st)
def sSet (i : Nat) (f : Env' → M D) : Env' → M Out := fun env => (f env).bind fun d => .ret (.nx (env.set i (.dat d)))
theorem ss_set {te : TE} {i : Nat} {f : Env' → M D} (hf : SE T K E te f) : SS T K E (tAsg te (gName i)) (sSet i f) := fun z c env P X p G0 H0 σ G H A En F =>
  hf z c env _ X (wpM_bind.mp p) G0 H0 σ G H A _ (fun v d c1 G1 H1 s1 g1 j1 r1 p1 => F.nx _ _ _ _ _ ((A.step s1 g1 j1).setD i r1) p1) (F.xok A.st)
/-- a fresh list that will change -/
def sSetN (i : Nat) (f : Env' → M (List D)) : Env' → M Out := fun env => (f env).bind fun ds => if i < env.length then .ret (.nx (env.set i (.mu ds))) else .fail
theorem ss_setN {te : TE} {i : Nat} {f : Env' → M (List D)} (hf : SN T K E te f) : SS T K E (tAsg te (gName i)) (sSetN i f) := fun z c env P X p G0 H0 σ G H A En F =>
  hf z c env _ X (wpM_bind.mp p) G0 H0 σ G H A _ (fun p xs ds c2 G2 H2 s g j hp gp nf m r pd => by
    by_cases hi : i < env.length
    · rw [if_pos hi] at pd
      exact F.nx _ _ _ _ _ (A.setMN i hi s g j hp gp nf m r) pd
    · rw [if_neg hi] at pd; exact pd.elim) (F.xok A.st)
def sPar (i j : Nat) (g : Env' → M (List D)) : Env' → M Out := fun env => (g env).bind fun ds => match ds with
  | [a, b] => .ret (.nx ((env.set i (.dat a)).set j (.dat b)))
  | _ => .fail
theorem ss_par {ta : TA} {i j : Nat} {g : Env' → M (List D)} (h : SA T K E ta g) : SS T K E (tPar i j ta) (sPar i j g) := fun z c env P X p G0 H0 σ G H A En F =>
  h z c env _ X (wpM_bind.mp p) G0 H0 σ G H A _ (fun vs ds c1 G1 H1 s1 g1 j1 r1 p1 => by
    cases r1 with
    | nil => exact p1.elim
    | cons r1 r2 =>
      cases r2 with
      | nil => exact p1.elim
      | cons r2 r3 =>
        cases r3 with
        | cons _ _ => exact p1.elim
        | nil => exact ⟨_, _, rfl, F.nx _ _ _ _ _ (((A.step s1 g1 j1).setD i r1).setD j r2) p1⟩) (F.xok A.st)
def sPar3 (i j m : Nat) (g : Env' → M (List D)) : Env' → M Out := fun env => (g env).bind fun ds => match ds with
  | [a, b, d] => .ret (.nx (((env.set i (.dat a)).set j (.dat b)).set m (.dat d)))
  | _ => .fail
theorem ss_par3 {ta : TA} {i j m : Nat} {g : Env' → M (List D)} (h : SA T K E ta g) : SS T K E (tPar3 i j m ta) (sPar3 i j m g) := fun z c env P X p G0 H0 σ G H A En F =>
  h z c env _ X (wpM_bind.mp p) G0 H0 σ G H A _ (fun vs ds c1 G1 H1 s1 g1 j1 r1 p1 => by
    cases r1 with
    | nil => exact p1.elim
    | cons r1 r2 =>
      cases r2 with
      | nil => exact p1.elim
      | cons r2 r3 =>
        cases r3 with
        | nil => exact p1.elim
        | cons r3 r4 =>
          cases r4 with
          | cons _ _ => exact p1.elim
          | nil => exact ⟨_, _, _, rfl, F.nx _ _ _ _ _ ((((A.step s1 g1 j1).setD i r1).setD j r2).setD m r3) p1⟩) (F.xok A.st)
def sRet (f : Env' → M D) : Env' → M Out := fun env => (f env).bind fun d => .ret (.rt d)
theorem ss_ret {te : TE} {f : Env' → M D} (hf : SE T K E te f) : SS T K E (tRet te) (sRet f) := fun z c env P X p G0 H0 σ G H A En F =>
  hf z c env _ X (wpM_bind.mp p) G0 H0 σ G H A _ (fun v d c1 G1 H1 s1 g1 j1 r1 p1 => F.rt v d c1 G1 H1 (A.st.trans s1) g1 j1 r1 p1) (F.xok A.st)
def sRetN : Env' → M Out := fun _ => .ret (.rt .non)
theorem ss_retN : SS T K E tRetN sRetN := fun z c env P X p G0 H0 σ G H A En F => F.rt .non .non c G H A.st A.gok A.j .non p
def sDrop (f : Env' → M D) : Env' → M Out := fun env => (f env).bind fun _ => .ret (.nx env)
theorem ss_drop {te : TE} {f : Env' → M D} (hf : SE T K E te f) : SS T K E (tDrop te) (sDrop f) := fun z c env P X p G0 H0 σ G H A En F =>
  hf z c env _ X (wpM_bind.mp p) G0 H0 σ G H A _ (fun v d c1 G1 H1 s1 g1 j1 r1 p1 => F.nx _ _ _ _ _ (A.step s1 g1 j1) p1) (F.xok A.st)
def sIf (t : Env' → M Bool) (g h : Env' → M Out) : Env' → M Out := fun env => (t env).bind fun b => if b then g env else h env
theorem ss_if {tt : TT} {t u : TS} {f : Env' → M Bool} {g h : Env' → M Out} (hf : SB T K E tt f) (h1 : SS T K E t g) (h2 : SS T K E u h) : SS T K E (tIfS tt t u) (sIf f g h) := fun z c env P X p G0 H0 σ G H A En F =>
  hf z c env _ X (wpM_bind.mp p) G0 H0 σ G H A _ (fun b c1 G1 H1 s1 g1 j1 p1 => by
    cases b with
    | true => exact h1 z c1 env P X p1 _ _ _ _ _ (A.step s1 g1 j1) En F
    | false => exact h2 z c1 env P X p1 _ _ _ _ _ (A.step s1 g1 j1) En F) (F.xok A.st)
/-- for -/
def forM (tg : D → Env' → Option Env') (g : Env' → M Out) : List D → Env' → M Out
  | [], env => .ret (.nx env)
  | d :: r, env => match tg d env with
    | none => .fail
    | some e => (g e).bind fun o => match o with
      | .nx e => forM tg g r e
      | .ct e => forM tg g r e
      | .bk e => .ret (.nx e)
      | .rt d => .ret (.rt d)
def sFor (i : Env' → M (List D)) (tg : D → Env' → Option Env') (g : Env' → M Out) : Env' → M Out := fun env => (i env).bind fun l => forM tg g l env
theorem ss_for {wi : TI} {g : TG} {tb : TS} {us : List Nat} {i : Env' → M (List D)} {tg : D → Env' → Option Env'} {b : Env' → M Out} (hi : SI T K E wi i) (hg : SG T K g us tg) (hb : SS T K E tb b) : SS T K E (tFor wi g tb) (sFor i tg b) := fun z c env P X p G0 H0 σ G H A En F =>
  hi z c env _ X (wpM_bind.mp p) G0 H0 σ G H A _ (fun J items c1 G1 H1 s1 g1 j1 p1 its => by
    refine ⟨fun i m σ' H' => m = items.length - i ∧ i ≤ items.length ∧ ∃ G' e1 c1, Same G1 G' ∧ At (z.w T K) G0 H0 c1 G' H' σ' e1 ∧ wpM z (forM tg b (items.drop i) e1) c1 P X, ⟨items.length, by simp, Nat.zero_le _, G1, env, c1, fun _ _ h => h, A.step s1 g1 j1, p1⟩, ?_⟩
    rintro i m σ' H' ⟨rfl, hil, G', e1, c1, sg, A', pw⟩
    by_cases hlt : i < items.length
    · refine .inr ⟨its.go i G' H' A'.gok sg ⟨_, A'.j⟩ hlt, fun σ'' H'' => i + 1 ≤ items.length ∧ ∃ G' e1 c1, Same G1 G' ∧ At (z.w T K) G0 H0 c1 G' H'' σ'' e1 ∧ wpM z (forM tg b (items.drop (i + 1)) e1) c1 P X, fun σ'' H'' h => ⟨items.length - (i + 1), by omega, rfl, h⟩, fun y H2 hy => ?_⟩
      have hx : items[i]? = some items[i] := List.getElem?_eq_getElem hlt
      obtain ⟨G2, s2, g2, j2, r2⟩ := its.yld i items[i] _ G' H' y H2 A'.gok sg A'.j hx hy
      rw [List.drop_eq_getElem_cons hlt] at pw
      unfold forM at pw
      cases hk : tg items[i] e1 with
      | none => rw [hk] at pw; exact pw.elim
      | some e =>
      rw [hk] at pw
      refine hg.ok hk _ _ _ _ _ _ _ (A'.step s2 g2 j2) r2 _ fun σ3 A3 => ?_
      refine hb z _ e _ X (wpM_bind.mp pw) (G1, G0.2) H0 σ3 G2 H2 ⟨A3.st, sg.trans s2.gg, A3.gok, A3.j, A3.env⟩ _ ⟨fun σ4 e4 c4 G4 H4 A4 q => ?_, fun v d c4 G4 H4 st g j r q => F.rt v d c4 G4 H4 st g j r q, fun σ4 e4 c4 G4 H4 A4 q => ?_, fun σ4 e4 c4 G4 H4 A4 q => ?_, fun C fs d c4 G4 H4 st g j x q => F.xx C fs d c4 G4 H4 st g j x q⟩
      · exact ⟨hlt, G4, e4, c4, A4.sb, ⟨A4.st, A.sb.trans (s1.gg.trans A4.sb), A4.gok, A4.j, A4.env⟩, q⟩
      · exact F.nx _ _ _ _ _ ⟨A4.st, A.sb.trans (s1.gg.trans A4.sb), A4.gok, A4.j, A4.env⟩ q
      · exact ⟨hlt, G4, e4, c4, A4.sb, ⟨A4.st, A.sb.trans (s1.gg.trans A4.sb), A4.gok, A4.j, A4.env⟩, q⟩
    · have e : i = items.length := by omega
      subst e
      rw [List.drop_length] at pw
      exact .inl ⟨its.stop _ G' H' A'.gok sg ⟨_, A'.j⟩ (Nat.le_refl _), F.nx _ _ _ _ _ A' pw⟩) (F.xok A.st)
/-- while, at most n turns -/
def whM (t : Env' → M Bool) (g : Env' → M Out) : Nat → Env' → M Out
  | 0, _ => .fail
  | n + 1, env => (t env).bind fun b => if b then (g env).bind fun o => match o with
      | .nx e => whM t g n e
      | .ct e => whM t g n e
      | .bk e => .ret (.nx e)
      | .rt d => .ret (.rt d)
    else .ret (.nx env)
def sWh (n : Nat) (t : Env' → M Bool) (g : Env' → M Out) : Env' → M Out := whM t g n
theorem ss_wh {tt : TT} {tb : TS} {t : Env' → M Bool} {g : Env' → M Out} (n : Nat) (ht : SB T K E tt t) (hb : SS T K E tb g) : SS T K E (tWhile tt tb) (sWh n t g) := fun z c env P X p G0 H0 σ G H A En F => by
  refine ⟨fun m σ' H' => ∃ G' e1 c1, At (z.w T K) G0 H0 c1 G' H' σ' e1 ∧ wpM z (whM t g m e1) c1 P X, ⟨n, G, env, c, A, p⟩, ?_⟩
  rintro m σ' H' ⟨G', e1, c1, A', pw⟩
  cases m with
  | zero => exact pw.elim
  | succ m =>
  unfold whM at pw
  refine ht z c1 e1 _ X (wpM_bind.mp pw) G0 H0 σ' G' H' A' _ (fun b c2 G2 H2 s2 g2 j2 p2 => ?_) (F.xok A'.st)
  cases b with
  | false => exact (if_neg Bool.false_ne_true).mpr (F.nx _ _ _ _ _ (A'.step s2 g2 j2) p2)
  | true =>
    refine (if_pos rfl).mpr ⟨fun σ'' H'' => ∃ G' e1 c1, At (z.w T K) G0 H0 c1 G' H'' σ'' e1 ∧ wpM z (whM t g m e1) c1 P X, fun σ'' H'' h => ⟨m, Nat.lt_succ_self _, h⟩, ?_⟩
    refine hb z c2 e1 _ X (wpM_bind.mp p2) _ _ _ _ _ (A'.step s2 g2 j2) _ ⟨fun σ4 e4 c4 G4 H4 A4 q => ⟨G4, e4, c4, A4, q⟩, fun v d c4 G4 H4 st g j r q => F.rt v d c4 G4 H4 st g j r q, fun σ4 e4 c4 G4 H4 A4 q => F.nx _ _ _ _ _ A4 q, fun σ4 e4 c4 G4 H4 A4 q => ⟨G4, e4, c4, A4, q⟩, fun C fs d c4 G4 H4 st g j x q => F.xx C fs d c4 G4 H4 st g j x q⟩
/-- from now on the list stands still -/
def frzE (i : Nat) (env : Env') : Env' := match env[i]? with
  | some (.mu ds) => env.set i (.dat (.lst ds))
  | _ => env
def sFrz (i : Nat) (g : Env' → M Out) : Env' → M Out := fun env => g (frzE i env)
theorem At.frzE {σ : L2.St} {env : Env'} (A : At W G0 H0 c G H σ env) (i : Nat) : ∃ G', At W G0 H0 c G' H σ (frzE i env) := by
  unfold Fx.frzE
  split
  · rename_i ds he; exact A.frz he
  · exact ⟨G, A⟩
theorem ss_frz {t : TS} {g : Env' → M Out} (i : Nat) (h : SS T K E t g) : SS T K E t (sFrz i g) := fun z c env P X p G0 H0 σ G H A En F => by
  obtain ⟨G', A'⟩ := A.frzE i
  exact h z c _ P X p _ _ _ _ _ A' En F
/-- x.append(e) -/
def sApp (i : Nat) (f : Env' → M D) : Env' → M Out := fun env => match env[i]? with
  | some (.mu ds) => (f env).bind fun d => if ds.length < 100000 then .ret (.nx (env.set i (.mu (ds ++ [d])))) else .fail
  | _ => .fail
theorem ss_app {te : TE} {i : Nat} {f : Env' → M D} (hf : SE T K E te f) : SS T K E (tDrop (tBM K "list" rAppend (tVar i) (tCons te tNil))) (sApp i f) := fun z c env P X p G0 H0 σ G H A En F => by
  unfold sApp at p
  split at p
  · rename_i ds he
    obtain ⟨l, xs, e1, hl, rr, m, gl⟩ := ev_mu A he
    refine ⟨_, e1, .inl ⟨rfl, xs, SqL.of hl⟩, ?_⟩
    refine hf z c env _ X (wpM_bind.mp p) G0 H0 σ G H A _ (fun v d c1 G1 H1 s1 g1 j1 r1 p1 => ?_) (F.xok A.st)
    by_cases hz : ds.length < 100000
    · rw [if_pos hz] at p1
      have hl1 := s1.hh l _ hl m (noTb_lst _)
      refine ⟨l, xs, v, rfl, rfl, hl1, Nat.lt_of_lt_of_le (by rw [rr.len]; exact hz) (by decide), ?_⟩
      exact F.nx _ _ _ _ _ ((A.step s1 g1 j1).chM he e1 ((rr.mono s1.gg).app (.cons r1 .nil))) p1
    · rw [if_neg hz] at p1; exact p1.elim
  · exact p.elim
/-- x[e1] = e2, x a list -/
def sStL (i : Nat) (fi fv : Env' → M D) : Env' → M Out := fun env => match env[i]? with
  | some (.mu ds) => (fv env).bind fun d => (fi env).bind fun k => match k with
    | .int k => if 0 ≤ k ∧ k.toNat < ds.length then .ret (.nx (env.set i (.mu (ds.set k.toNat d)))) else .fail
    | _ => .fail
  | _ => .fail
theorem ss_stL {te ti : TE} {i : Nat} {fi fv : Env' → M D} (hi : SE T K E ti fi) (hv : SE T K E te fv) : SS T K E (tAsg te (gSub (tVar i) ti rSetL)) (sStL i fi fv) := fun z c env P X p G0 H0 σ G H A En F => by
  unfold sStL at p
  split at p
  · rename_i ds he
    obtain ⟨l, xs, e1, hl, rr, m, gl⟩ := ev_mu A he
    refine hv z c env _ X (wpM_bind.mp p) G0 H0 σ G H A _ (fun v d c1 G1 H1 s1 g1 j1 r1 p1 => ⟨_, e1, ?_⟩) (F.xok A.st)
    refine hi z c1 env _ X (wpM_bind.mp p1) G0 H0 σ G1 H1 (A.step s1 g1 j1) _ (fun v2 d2 c2 G2 H2 s2 g2 j2 r2 p2 => ?_) (F.xok (A.st.trans s1))
    cases r2 with
    | int k =>
      have p2 : wpM z (if 0 ≤ k ∧ k.toNat < ds.length then .ret (.nx (env.set i (.mu (ds.set k.toNat d)))) else .fail) c2 P X := p2
      by_cases hk : 0 ≤ k ∧ k.toNat < ds.length
      · rw [if_pos hk] at p2
        have hl2 := (s1.trans s2).hh l _ hl m (noTb_lst _)
        refine ⟨l, xs, k, k.toNat, rfl, rfl, hl2, ?_, ?_⟩
        · have : k.toNat < xs.length := by rw [rr.len]; exact hk.2
          unfold ixN
          rw [if_pos hk.1, if_pos (by omega)]
        · exact F.nx _ _ _ _ _ (((A.step s1 g1 j1).step s2 g2 j2).chM he e1 (RpL.set (r1.mono s2.gg) k.toNat (rr.mono (s1.trans s2).gg))) p2
      · rw [if_neg hk] at p2; exact p2.elim
    | _ => exact p2.elim
  · exact p.elim
/-- x += e -/
def sAug (i : Nat) (f : Env' → M D) : Env' → M Out := fun env => match env[i]? with
  | some (.dat (.int a)) => (f env).bind fun d => match d with
    | .int b => .ret (.nx (env.set i (.dat (.int (a + b)))))
    | _ => .fail
  | _ => .fail
theorem ss_aug {te : TE} {i : Nat} {f : Env' → M D} (hf : SE T K E te f) : SS T K E (tAug i te (ipI (· + ·))) (sAug i f) := fun z c env P X p G0 H0 σ G H A En F => by
  unfold sAug at p
  split at p
  · rename_i a he
    obtain ⟨v, hv, r⟩ := A.env.dat _ _ he
    refine ⟨v, hv, hf z c env _ X (wpM_bind.mp p) G0 H0 σ G H A _ (fun u d c1 G1 H1 s1 g1 j1 r1 p1 => ?_) (F.xok A.st)⟩
    cases r
    cases r1 with
    | int b => exact ⟨a, b, rfl, rfl, F.nx _ _ _ _ _ ((A.step s1 g1 j1).setD i (.int _)) p1⟩
    | _ => exact p1.elim
  · exact p.elim
def sRz (C : Addr) : Env' → M Out := fun _ => .exc C []
theorem ss_rz {C : Addr} : SS T K E (tRaise C E) (sRz C) := fun z c env P X p => tr_raise p
def sRzF (C : Addr) (n : Str) (g : Env' → M (List D)) : Env' → M Out := fun env => (g env).bind fun ds => match ds with
  | [d] => .exc C [(n, d)]
  | _ => .fail
theorem ss_rzF {C : Addr} {n : Str} {ta : TA} {g : Env' → M (List D)} (h : SA T K E ta g) : SS T K E (tRaiseF C n ta E) (sRzF C n g) := fun z c env P X p G0 H0 σ G H A En F =>
  h z c env _ X (wpM_bind.mp p) G0 H0 σ G H A _ (fun vs ds c1 G1 H1 s1 g1 j1 r1 p1 => by
    cases r1 with
    | nil => exact p1.elim
    | @cons v _ d _ rv r2 =>
      cases r2 with
      | cons _ _ => exact p1.elim
      | nil =>
        refine ⟨by show 1 ≤ 1000; decide, fun a ha => ⟨a, v, rfl, upd_same, fun dx hdx hne => ?_⟩⟩
        rw [upd_ne hne] at hdx
        refine ⟨rfl, dx, [(n, v)], upd_same, by rw [upd_ne hne]; exact upd_same, hdx, ?_⟩
        have e : upd (del (upd (upd (upd H1 a (exo a C none)) dx (exd dx [(n, v)])) a (exo a C (some dx))) a) dx (.xd [(n, v)]) = upd H1 dx (.xd [(n, v)]) := by
          funext b
          by_cases h1 : b = dx
          · rw [h1, upd_same, upd_same]
          · rw [upd_ne h1, upd_ne h1]
            by_cases h2 : b = a
            · rw [h2, del_same, ha]
            · rw [del_ne h2, upd_ne h2, upd_ne h1, upd_ne h2]
        rw [e]
        have nt : NoTb (.xd [(n, v)]) := fun _ z => by cases z
        have sn := same_new (g1.none hdx) (HO.xd [(n, v)])
        exact F.xx C [(n, d)] (some dx) c1 _ _ (A.st.trans (s1.trans (stp_new g1 hdx))) (gok_new g1 j1 hdx nt) (J_new j1 hdx) ⟨_, upd_same, .cons (rv.mono sn) .nil⟩ p1) (F.xok A.st)
end
end Fx

set_option Elab.async false
set_option linter.all false
set_option maxRecDepth 100000
set_option maxHeartbeats 4000000
/-! Operators and built-in functions on plain data, each as one function. -/
namespace Fx
open PySem PySem.Spec PyProof.Rows L2 LamX
def asInts : List D → Option (List Int)
  | [] => some []
  | .int i :: r => (asInts r).map (i :: ·)
  | _ => none
def asBls : List D → Option (List Bool)
  | [] => some []
  | .bl i :: r => (asBls r).map (i :: ·)
  | _ => none
theorem asInts_eq : ∀ {ds : List D} {ns : List Int}, asInts ds = some ns → ds = ns.map .int
  | [], ns, e => by cases e; rfl
  | .int i :: r, ns, e => by
    obtain ⟨m, h, rfl⟩ := Option.map_eq_some_iff.mp e
    rw [asInts_eq h]; rfl
  | .non :: _, _, e => by cases e
  | .bl _ :: _, _, e => by cases e
  | .str _ :: _, _, e => by cases e
  | .tup _ :: _, _, e => by cases e
  | .lst _ :: _, _, e => by cases e
  | .dic _ :: _, _, e => by cases e
  | .raw _ :: _, _, e => by cases e
  | .exc _ _ :: _, _, e => by cases e
theorem asInts_map : ∀ ns : List Int, asInts (ns.map .int) = some ns
  | [] => rfl
  | n :: ns => by show (asInts (ns.map .int)).map (n :: ·) = _; rw [asInts_map ns]; rfl
theorem asBls_eq : ∀ {ds : List D} {ns : List Bool}, asBls ds = some ns → ds = ns.map .bl
  | [], ns, e => by cases e; rfl
  | .bl i :: r, ns, e => by
    obtain ⟨m, h, rfl⟩ := Option.map_eq_some_iff.mp e
    rw [asBls_eq h]; rfl
  | .non :: _, _, e => by cases e
  | .int _ :: _, _, e => by cases e
  | .str _ :: _, _, e => by cases e
  | .tup _ :: _, _, e => by cases e
  | .lst _ :: _, _, e => by cases e
  | .dic _ :: _, _, e => by cases e
  | .raw _ :: _, _, e => by cases e
  | .exc _ _ :: _, _, e => by cases e
theorem asBls_map : ∀ ns : List Bool, asBls (ns.map .bl) = some ns
  | [] => rfl
  | n :: ns => by show (asBls (ns.map .bl)).map (n :: ·) = _; rw [asBls_map ns]; rfl
def ofO {α β : Type} (o : Option α) (f : α → M β) : M β := match o with
  | some a => f a
  | none => .fail
def ifM {α : Type} (p : Prop) [Decidable p] (m : M α) : M α := if p then m else .fail
theorem ifM_pos {α : Type} {p : Prop} [Decidable p] {m : M α} (h : p) : ifM p m = m := if_pos h
section
variable {T : List (Addr × Str)} {K : PySem.W.Frag} {E : XK}
variable {W : Wld T} {G H G1 H1 G2 H2 H0 : Hp} {G0 : Hp × Hp} {c c' k : Nat} {z : Zw}
/-! ### operators -/
def oAdd : D → D → M D
  | .int a, .int b => .ret (.int (a + b))
  | .str a, .str b => ifM (a.length + b.length ≤ 100000) (.ret (.str (a ++ b)))
  | .lst a, .lst b => ifM (a.length + b.length ≤ 100000) (.ret (.lst (a ++ b)))
  | .tup a, .tup b => ifM (a.length + b.length ≤ 100000) (.ret (.tup (a ++ b)))
  | _, _ => .fail
def rAddU (K : PySem.W.Frag) : R2 := fun x y H Q => rI0 (fun i j => .int (i + j)) x y H Q ∨ (∃ i j, x = .str i ∧ y = .str j ∧ i.length + j.length ≤ sizeLine ∧ Q (.str (i ++ j)) H) ∨ rCat x y H Q ∨ rCatA K x y H Q
theorem kadd {X : Cx} (K : PySem.W.Frag) (h : X.K = K := by rfl) : OpR X (binaryOp .Add) (rAddU K) := by subst h; exact OpR.or op_add (OpR.or op_add_str (OpR.or op_cat op_catA))
theorem ok_add : OpOk T (rAddU K) oAdd := fun d1 d2 => by
  cases d1 <;> cases d2 <;> first
    | exact .inl rfl
    | exact .inr ⟨_, rfl, fun W => rd_inl rd_add⟩
    | (rename_i a b
       by_cases hz : a.length + b.length ≤ 100000
       · first
         | exact .inr ⟨_, if_pos hz, fun W => rd_inr (rd_inl (rd_catS hz))⟩
         | exact .inr ⟨_, if_pos hz, fun W => rd_inr (rd_inr (rd_inl (rd_cat hz)))⟩
         | exact .inr ⟨_, if_pos hz, fun W => rd_inr (rd_inr (rd_inr (rd_catA hz)))⟩
       · exact .inl (if_neg hz))
def oII (g : Int → Int → M D) : D → D → M D
  | .int a, .int b => g a b
  | _, _ => .fail
theorem ok_II {r : R2} {g : Int → Int → M D} (h : ∀ a b, g a b = .fail ∨ ∃ d, g a b = .ret d ∧ ∀ W : Wld T, RD2 W r (.int a) (.int b) d) : OpOk T r (oII g) := fun d1 d2 => by
  cases d1 <;> first
    | exact .inl rfl
    | (cases d2 <;> first | exact .inl rfl | exact h _ _)
theorem ok_I0 {g : Int → Int → V} {f : Int → Int → D} (h : ∀ a b G, Rp G (g a b) (f a b)) : OpOk T (rI0 g) (oII fun a b => .ret (f a b)) := ok_II fun a b => .inr ⟨_, rfl, fun W => rd_I0 (h a b)⟩
theorem ok_I {C : Int → Int → Prop} {g : Int → Int → V} {f : Int → Int → D} {p : Int → Int → Prop} [∀ a b, Decidable (p a b)] (hp : ∀ a b, p a b → C a b) (h : ∀ a b G, Rp G (g a b) (f a b)) : OpOk T (rI C g) (oII fun a b => ifM (p a b) (.ret (f a b))) := ok_II fun a b => by
  by_cases e : p a b
  · exact .inr ⟨_, if_pos e, fun W => rd_I (hp a b e) (h a b)⟩
  · exact .inl (if_neg e)
abbrev oSub : D → D → M D := oII fun a b => .ret (.int (a - b))
theorem ok_sub : OpOk T (rI0 fun i j => .int (i - j)) oSub := ok_I0 fun _ _ _ => .int _
abbrev pMul (a b : Int) : Prop := a.natAbs.log2 + b.natAbs.log2 < 1000000
abbrev pDiv (_ b : Int) : Prop := 0 < b ∧ b.natAbs.log2 < 9000
abbrev pMod (_ b : Int) : Prop := 0 < b
abbrev pPow (a b : Int) : Prop := 0 ≤ b ∧ b ≤ 1000000 ∧ a.natAbs < 2 ^ 64
def oMul : D → D → M D
  | .int a, .int b => ifM (pMul a b) (.ret (.int (a * b)))
  | .lst a, .int b => ifM (smI b = true ∧ a.length * b.toNat ≤ 100000) (.ret (.lst (List.replicate b.toNat a).flatten))
  | _, _ => .fail
def rMulU : R2 := fun x y H Q => rI CMulW (fun i j => .int (i * j)) x y H Q ∨ rRep x y H Q
theorem op_mulU {X : Cx} : OpR X (binaryOp .Mult) rMulU := OpR.or op_mulW op_rep
theorem ok_mul : OpOk T rMulU oMul := fun d1 d2 => by
  cases d1 <;> cases d2 <;> first
    | exact .inl rfl
    | (rename_i a b
       by_cases hz : pMul a b
       · exact .inr ⟨_, if_pos hz, fun W => rd_inl (rd_I hz fun _ => .int _)⟩
       · exact .inl (if_neg hz))
    | (rename_i a b
       by_cases hz : smI b = true ∧ a.length * b.toNat ≤ 100000
       · have h1 := smI_le hz.1
         exact .inr ⟨_, if_pos hz, fun W => rd_inr (rd_rep (by omega) hz.2)⟩
       · exact .inl (if_neg hz))
abbrev oDiv : D → D → M D := oII fun a b => ifM (pDiv a b) (.ret (.int (a / b)))
theorem ok_div : OpOk T (rI CDivW fun i j => .int (i / j)) oDiv := ok_I (p := pDiv) (fun a b h => h) fun _ _ _ => .int _
abbrev oMod : D → D → M D := oII fun a b => ifM (pMod a b) (.ret (.int (a % b)))
theorem ok_mod : OpOk T (rI (fun _ j => 0 < j) fun i j => .int (i % j)) oMod := ok_I (p := pMod) (fun a b h => h) fun _ _ _ => .int _
abbrev oPow : D → D → M D := oII fun a b => ifM (pPow a b) (.ret (.int (a ^ b.toNat)))
theorem ok_pow : OpOk T (rI CPow fun i j => .int (i ^ j.toNat)) oPow := ok_I (p := pPow) (fun a b h => h) fun _ _ _ => .int _
def oLt : D → D → M D
  | .int a, .int b => .ret (.bl (decide (a < b)))
  | .tup a, .tup b => ofO (asInts a) fun x => ofO (asInts b) fun y => .ret (.bl (HT.lexLt x y))
  | _, _ => .fail
def rLtU (K : PySem.W.Frag) : R2 := fun x y H Q => rI0 (fun i j => .bl (decide (i < j))) x y H Q ∨ rLtT K x y H Q
theorem klt {X : Cx} (K : PySem.W.Frag) (hu : X.A.units + 64 < cLine) (h : X.K = K := by rfl) : OpR X (compareOp .Lt) (rLtU K) := by subst h; exact OpR.or op_lt (op_ltT (by omega))
theorem ok_lt : OpOk T (rLtU K) oLt := fun d1 d2 => by
  cases d1 <;> cases d2 <;> first
    | exact .inl rfl
    | exact .inr ⟨_, rfl, fun W => rd_inl rd_lt⟩
    | (rename_i a b
       have e0 : oLt (.tup a) (.tup b) = ofO (asInts a) (fun x => ofO (asInts b) fun y => M.ret (D.bl (HT.lexLt x y))) := rfl
       rw [e0]
       cases e1 : asInts a with
       | none => exact .inl rfl
       | some x =>
         cases e2 : asInts b with
         | none => exact .inl rfl
         | some y =>
           rw [asInts_eq e1, asInts_eq e2]
           exact .inr ⟨_, rfl, fun W => rd_inr rd_ltT⟩)
abbrev oLe : D → D → M D := oII fun a b => .ret (.bl (decide (a ≤ b)))
abbrev oGt : D → D → M D := oII fun a b => .ret (.bl (decide (b < a)))
abbrev oGe : D → D → M D := oII fun a b => .ret (.bl (decide (b ≤ a)))
theorem ok_le : OpOk T (rI0 fun i j => .bl (decide (i ≤ j))) oLe := ok_I0 fun _ _ _ => .bl _
theorem ok_gt : OpOk T (rI0 fun i j => .bl (decide (j < i))) oGt := ok_I0 fun _ _ _ => .bl _
theorem ok_ge : OpOk T (rI0 fun i j => .bl (decide (j ≤ i))) oGe := ok_I0 fun _ _ _ => .bl _
/-- two texts -/
def strs? : D → D → Option Bool
  | .str a, .str b => some (decide (a = b))
  | _, _ => none
def oEq (a b : D) : M D := match strs? a b with
  | some r => .ret (.bl r)
  | none => ifM (D.ok 64 a = true ∧ D.ok 64 b = true) (.ret (.bl (D.eqv a b)))
def oNe (a b : D) : M D := match strs? a b with
  | some r => .ret (.bl (!r))
  | none => ifM (D.ok 64 a = true ∧ D.ok 64 b = true) (.ret (.bl (!D.eqv a b)))
def rEqU (K : PySem.W.Frag) : R2 := fun x y H Q => rEq x y H Q ∨ rEqD K x y H Q
def rNeU (K : PySem.W.Frag) : R2 := fun x y H Q => rNe x y H Q ∨ rNeD K x y H Q
theorem keqU {X : Cx} (K : PySem.W.Frag) (hu : X.A.units + 64 < cLine) (h : X.K = K := by rfl) : OpR X (compareOp .Eq) (rEqU K) := by subst h; exact OpR.or op_eq (op_eqD hu)
theorem kneU {X : Cx} (K : PySem.W.Frag) (hu : X.A.units + 64 < cLine) (h : X.K = K := by rfl) : OpR X (compareOp .NotEq) (rNeU K) := by subst h; exact OpR.or op_ne (op_neD hu)
theorem strs_some {a b : D} {r : Bool} (h : strs? a b = some r) : ∃ x y, a = .str x ∧ b = .str y ∧ r = decide (x = y) := by
  cases a <;> cases b <;> cases h
  exact ⟨_, _, rfl, rfl, rfl⟩
theorem dec_strV {x y : Str} : decide (V.str x = V.str y) = decide (x = y) := by
  rw [Bool.eq_iff_iff]
  simp
theorem ok_eq : OpOk T (rEqU K) oEq := fun a b => by
  unfold oEq
  cases e : strs? a b with
  | some r =>
    obtain ⟨x, y, rfl, rfl, rfl⟩ := strs_some e
    refine .inr ⟨_, rfl, fun W => rd_inl fun c G H v1 v2 g j r1 r2 Q q => ?_⟩
    cases r1
    cases r2
    exact ⟨rfl, by rw [dec_strV]; exact q.here g j (.bl _)⟩
  | none =>
    by_cases h : D.ok 64 a = true ∧ D.ok 64 b = true
    · exact .inr ⟨_, if_pos h, fun W => rd_inr (rd_eqD h.1 h.2)⟩
    · exact .inl (if_neg h)
theorem ok_ne : OpOk T (rNeU K) oNe := fun a b => by
  unfold oNe
  cases e : strs? a b with
  | some r =>
    obtain ⟨x, y, rfl, rfl, rfl⟩ := strs_some e
    refine .inr ⟨_, rfl, fun W => rd_inl fun c G H v1 v2 g j r1 r2 Q q => ?_⟩
    cases r1
    cases r2
    exact ⟨rfl, by rw [dec_strV]; exact q.here g j (.bl _)⟩
  | none =>
    by_cases h : D.ok 64 a = true ∧ D.ok 64 b = true
    · exact .inr ⟨_, if_pos h, fun W => rd_inr (rd_neD h.1 h.2)⟩
    · exact .inl (if_neg h)
/-- x in a list, a tuple, a dict -/
def keyD? : D → Option Key
  | .int i => some (.inl i)
  | .str s => some (.inr s)
  | _ => none
theorem keyD_eq {d : D} {k : Key} (h : keyD? d = some k) : d = kD k := by
  cases d <;> cases h <;> rfl
def inM (x : D) : D → M Bool
  | .lst ds => ifM (D.ok 64 x = true ∧ D.ok 64 (.lst ds) = true) (.ret (ds.any fun y => D.eqv y x))
  | .tup ds => ifM (D.ok 64 x = true ∧ D.ok 64 (.tup ds) = true) (.ret (ds.any fun y => D.eqv y x))
  | .dic kvs => ofO (keyD? x) fun k => .ret (lkD kvs k).isSome
  | _ => .fail
def oIn (a b : D) : M D := (inM a b).bind fun r => .ret (.bl r)
def oNotIn (a b : D) : M D := (inM a b).bind fun r => .ret (.bl (!r))
def rInDic : R2 := fun x y H Q => ∃ a o, y = .ref a ∧ DGet H a x o ∧ Q (.bl o.isSome) H
def rNotInDic : R2 := fun x y H Q => ∃ a o, y = .ref a ∧ DGet H a x o ∧ Q (.bl (!o.isSome)) H
theorem op_inDic {X : Cx} (hu : X.A.units + 1 < cLine) : OpR X (compareOp .In) rInDic := by
  intro pins s σ H x y v u Q I rx ry h
  obtain ⟨a, o, rfl, g, q⟩ := h
  obtain rfl : u = Value.ref a := ry
  exact d_in hu I g rx fun s3 I3 => ⟨.bl o.isSome, H, I3, rfl, q⟩
theorem op_notInDic {X : Cx} (hu : X.A.units + 1 < cLine) : OpR X (compareOp .NotIn) rNotInDic := by
  intro pins s σ H x y v u Q I rx ry h
  obtain ⟨a, o, rfl, g, q⟩ := h
  obtain rfl : u = Value.ref a := ry
  exact d_notIn hu I g rx fun s3 I3 => ⟨.bl (!o.isSome), H, I3, rfl, q⟩
def rNotInT (K : PySem.W.Frag) : R2 := fun x y H Q => ∃ d ds, Dp K H x d ∧ Dp K H y (.tuple ds) ∧ SeqAt.shaped d = true ∧ SeqAt.shaped (.tuple ds) = true ∧ Q (.bl (!ds.any fun z => PyData.eqv z d)) H
theorem op_notInT {X : Cx} (hu : X.A.units + 65 < cLine) : OpR X (compareOp .NotIn) (rNotInT X.K) := by
  intro pins s σ H x y v u Q I rx ry ⟨d, ds, hd, he, sd, se, q⟩
  obtain ⟨as, r1⟩ := Dp.reads I d x v hd rx
  obtain ⟨bs, r2⟩ := Dp.reads I (.tuple ds) y u he ry
  exact SeqAt.notIn_tuple_reads r2 r1 (SeqAt.canLay_of_shaped se) (SeqAt.canLay_of_shaped sd) (room_in_shaped sd hu) ⟨.bl _, H, I, rfl, q⟩
def rInU (K : PySem.W.Frag) : R2 := fun x y H Q => rInA K x y H Q ∨ rInDic x y H Q
def rNotInU (K : PySem.W.Frag) : R2 := fun x y H Q => rNotInD K x y H Q ∨ rNotInT K x y H Q ∨ rNotInDic x y H Q
theorem kinU {X : Cx} (K : PySem.W.Frag) (hu : X.A.units + 65 < cLine) (h : X.K = K := by rfl) : OpR X (compareOp .In) (rInU K) := by subst h; exact OpR.or (op_inA hu) (op_inDic (by omega))
theorem knotinU {X : Cx} (K : PySem.W.Frag) (hu : X.A.units + 65 < cLine) (h : X.K = K := by rfl) : OpR X (compareOp .NotIn) (rNotInU K) := by subst h; exact OpR.or (op_notInD hu) (OpR.or (op_notInT hu) (op_notInDic (by omega)))
theorem any_eqv {x : D} {ds : List D} : ((pyL ds).any fun y => PyData.eqv y x.py) = ds.any fun y => D.eqv y x := any_pyL
theorem dget_lk {v1 v2 : V} {kvs : List (Key × D)} {k : Key} (g : GOk W G H) (r1 : Rp G v1 (kD k)) (r2 : Rp G v2 (.dic kvs)) : ∃ a o, v2 = .ref a ∧ DGet H a v1 o ∧ o.isSome = (lkD kvs k).isSome ∧ ∀ d, lkD kvs k = some d → ∃ v, o = some v ∧ Rp G v d := by
  have e1 : v1 = kV k := by
    cases k with
    | inl i => cases r1; rfl
    | inr s => cases r1; rfl
  subst e1
  cases r2 with
  | @dic a o vs _ h r =>
    have hd : DGet H a (kV k) (valV vs k) := .inl ⟨vs, k, .inr ⟨o, g.same _ _ h⟩, rfl, rfl⟩
    refine ⟨a, _, rfl, hd, ?_, fun d e => r.lk e⟩
    rw [← valV_any]
    have q := r.any (k := k)
    rw [q]
    clear hd q h
    unfold lkD
    rw [Option.isSome_map, Bool.eq_iff_iff, List.find?_isSome, List.any_eq_true]
theorem ok_in : OpOk T (rInU K) oIn := fun a b => by
  cases b with
  | lst ds =>
    by_cases h : D.ok 64 a = true ∧ D.ok 64 (.lst ds) = true
    · refine .inr ⟨.bl (ds.any fun y => D.eqv y a), ?_, fun W => ?_⟩
      · show (ifM (D.ok 64 a = true ∧ D.ok 64 (.lst ds) = true) (M.ret (ds.any fun y => D.eqv y a))).bind _ = _
        rw [ifM_pos h]; rfl
      · rw [← any_eqv]
        exact rd_inl (rd_inS (b := false) h.1 h.2)
    · refine .inl ?_
      show (ifM (D.ok 64 a = true ∧ D.ok 64 (.lst ds) = true) (M.ret (ds.any fun y => D.eqv y a))).bind _ = _
      unfold ifM
      rw [if_neg h]; rfl
  | tup ds =>
    by_cases h : D.ok 64 a = true ∧ D.ok 64 (.tup ds) = true
    · refine .inr ⟨.bl (ds.any fun y => D.eqv y a), ?_, fun W => ?_⟩
      · show (ifM (D.ok 64 a = true ∧ D.ok 64 (.tup ds) = true) (M.ret (ds.any fun y => D.eqv y a))).bind _ = _
        rw [ifM_pos h]; rfl
      · rw [← any_eqv]
        exact rd_inl (rd_inS (b := true) h.1 h.2)
    · refine .inl ?_
      show (ifM (D.ok 64 a = true ∧ D.ok 64 (.tup ds) = true) (M.ret (ds.any fun y => D.eqv y a))).bind _ = _
      unfold ifM
      rw [if_neg h]; rfl
  | dic kvs =>
    cases e : keyD? a with
    | none => exact .inl (by show (ofO (keyD? a) _).bind _ = _; rw [e]; rfl)
    | some k =>
      refine .inr ⟨.bl (lkD kvs k).isSome, by show (ofO (keyD? a) _).bind _ = _; rw [e]; rfl, fun W => rd_inr fun c G H v1 v2 g j r1 r2 Q q => ?_⟩
      rw [keyD_eq e] at r1
      obtain ⟨x, o, e2, hd, ho, _⟩ := dget_lk g r1 r2
      exact ⟨x, o, e2, hd, by rw [ho]; exact q.here g j (.bl _)⟩
  | _ => exact .inl rfl
theorem ok_notin : OpOk T (rNotInU K) oNotIn := fun a b => by
  cases b with
  | lst ds =>
    by_cases h : D.ok 64 a = true ∧ D.ok 64 (.lst ds) = true
    · refine .inr ⟨.bl (!ds.any fun y => D.eqv y a), ?_, fun W => rd_inl fun c G H v1 v2 g j r1 r2 Q q => ?_⟩
      · show (ifM (D.ok 64 a = true ∧ D.ok 64 (.lst ds) = true) (M.ret (ds.any fun y => D.eqv y a))).bind _ = _
        rw [ifM_pos h]; rfl
      · have h2 := r2.dp (K := K) g h.2
        have h3 := shaped_of_ok h.2
        rw [D.py] at h2 h3
        exact ⟨_, _, r1.dp g h.1, h2, shaped_of_ok h.1, h3, by rw [any_eqv]; exact q.here g j (.bl _)⟩
    · refine .inl ?_
      show (ifM (D.ok 64 a = true ∧ D.ok 64 (.lst ds) = true) (M.ret (ds.any fun y => D.eqv y a))).bind _ = _
      unfold ifM
      rw [if_neg h]; rfl
  | tup ds =>
    by_cases h : D.ok 64 a = true ∧ D.ok 64 (.tup ds) = true
    · refine .inr ⟨.bl (!ds.any fun y => D.eqv y a), ?_, fun W => rd_inr (rd_inl fun c G H v1 v2 g j r1 r2 Q q => ?_)⟩
      · show (ifM (D.ok 64 a = true ∧ D.ok 64 (.tup ds) = true) (M.ret (ds.any fun y => D.eqv y a))).bind _ = _
        rw [ifM_pos h]; rfl
      · have h2 := r2.dp (K := K) g h.2
        have h3 := shaped_of_ok h.2
        rw [D.py] at h2 h3
        exact ⟨_, _, r1.dp g h.1, h2, shaped_of_ok h.1, h3, by rw [any_eqv]; exact q.here g j (.bl _)⟩
    · refine .inl ?_
      show (ifM (D.ok 64 a = true ∧ D.ok 64 (.tup ds) = true) (M.ret (ds.any fun y => D.eqv y a))).bind _ = _
      unfold ifM
      rw [if_neg h]; rfl
  | dic kvs =>
    cases e : keyD? a with
    | none => exact .inl (by show (ofO (keyD? a) _).bind _ = _; rw [e]; rfl)
    | some k =>
      refine .inr ⟨.bl (!(lkD kvs k).isSome), by show (ofO (keyD? a) _).bind _ = _; rw [e]; rfl, fun W => rd_inr (rd_inr fun c G H v1 v2 g j r1 r2 Q q => ?_)⟩
      rw [keyD_eq e] at r1
      obtain ⟨x, o, e2, hd, ho, _⟩ := dget_lk g r1 r2
      exact ⟨x, o, e2, hd, by rw [ho]; exact q.here g j (.bl _)⟩
  | _ => exact .inl rfl
/-- is None, is not None -/
def isN : D → Bool
  | .non => true
  | _ => false
def noRaw : D → Bool
  | .raw _ => false
  | _ => true
def oIsN (a b : D) : M D := match b with
  | .non => ifM (noRaw a = true) (.ret (.bl (isN a)))
  | _ => .fail
def oNotN (a b : D) : M D := match b with
  | .non => ifM (noRaw a = true) (.ret (.bl (!isN a)))
  | _ => .fail
theorem ok_isN : OpOk T (fun x y H Q => y = .non ∧ Q (.bl (decide (x = .non))) H) oIsN := fun a b => by
  cases b with
  | non =>
    cases a <;> first
      | exact .inl rfl
      | exact .inr ⟨_, rfl, fun W => rd_isN fun v h => by cases h⟩
  | _ => exact .inl rfl
theorem ok_notN : OpOk T (fun x y H Q => y = .non ∧ Q (.bl (!decide (x = .non))) H) oNotN := fun a b => by
  cases b with
  | non =>
    cases a <;> first
      | exact .inl rfl
      | exact .inr ⟨_, rfl, fun W => rd_notN fun v h => by cases h⟩
  | _ => exact .inl rfl
def oIsB : D → D → M D
  | .bl a, .bl b => .ret (.bl (decide (a = b)))
  | _, _ => .fail
def oNotB : D → D → M D
  | .bl a, .bl b => .ret (.bl (!decide (a = b)))
  | _, _ => .fail
theorem ok_isB : OpOk T rIsB oIsB := fun a b => by
  cases a <;> cases b <;> first | exact .inl rfl | exact .inr ⟨_, rfl, fun W => rd_isB⟩
theorem ok_notB : OpOk T rNotB oNotB := fun a b => by
  cases a <;> cases b <;> first | exact .inl rfl | exact .inr ⟨_, rfl, fun W => rd_notB⟩
/-- the item at a place, counted from the end where it is below 0 -/
def atM (ds : List D) (i : Int) : M D := ofO (atI ds i) .ret
theorem atI_rp {G : Hp} {xs : List V} {ds : List D} {i : Int} {d : D} (r : RpL G xs ds) (h : atI ds i = some d) : ∃ v, atI xs i = some v ∧ Rp G v d := by
  unfold atI at h ⊢
  rw [r.len]
  obtain ⟨j, h1, h2⟩ := Option.bind_eq_some_iff.mp h
  obtain ⟨v, e, rv⟩ := r.get h2
  exact ⟨v, by rw [h1]; exact e, rv⟩
def oIx : D → D → M D
  | .lst ds, .int i => atM ds i
  | .tup ds, .int i => atM ds i
  | .str s, .int i => ofO (atI s.cps.toList i) fun x => ifM (s.length ≤ 100000) (.ret (.str ⟨#[x]⟩))
  | .dic kvs, k => ofO (keyD? k) fun k => ofO (lkD kvs k) .ret
  | _, _ => .fail
def rIxDic : R2 := fun x y H Q => ∃ a v, x = .ref a ∧ DGet H a y (some v) ∧ Q v H
theorem ix_dic {X : Cx} (hu : X.A.units + 1 < cLine) : IxR X rIxDic := by
  intro value slice pins s σ H x y v u Q I rx ry ⟨a, w, e, g, q⟩ hs
  subst e
  obtain rfl : v = Value.ref a := rx
  have hT := dict_typeIs I g
  unfold subscriptTail
  refine wpAny_bind ?_
  rw [getitemInPython_of_ne hT.not_modules]
  refine wpAny_bind (wpAny_specialOf hT PySem.F.slot_dict_getitem.lookup ?_)
  have fin : wpAny (model X.prog X.w) X.A (subscripted slice false (.ref a) u) (fun r s₃ => wpAny (model X.prog X.w) X.A (letTemporaryGo value (.ref a) r >>= fun _ => pure r) (EP X pins σ Q) X.xe s₃) X.xe s := by
    rw [hs]
    exact wpAny_operating (d_getItem hu I g ry fun w' s3 I3 rw' => wpAny_bind (wpAny_letTemporaryGo (wpAny_pure ⟨w, H, I3, rw', q⟩)))
  first
    | exact wpAny_pure (wpAny_bind fin)
    | exact wpAny_bind (wpAny_pure (wpAny_bind fin))
    | exact wpAny_bind fin
def rIxU (K : PySem.W.Frag) : R2 := fun x y H Q => rIx K x y H Q ∨ rIxDic x y H Q
theorem kixU {X : Cx} (K : PySem.W.Frag) (hu : X.A.units + 65 < cLine) (h : X.K = K := by rfl) : IxR X (rIxU K) := by subst h; exact IxR.or ix_seq (ix_dic (by omega))
theorem ok_ix : OpOk T (rIxU K) oIx := fun a b => by
  cases a with
  | lst ds =>
    cases b with
    | int i =>
      cases e : atI ds i with
      | none => exact .inl (by show ofO (atI ds i) _ = _; rw [e]; rfl)
      | some d =>
        refine .inr ⟨d, by show ofO (atI ds i) _ = _; rw [e]; rfl, fun W => rd_inl fun c G H v1 v2 g j r1 r2 Q q => ?_⟩
        cases r2
        cases r1 with
        | lst h1 l1 =>
          obtain ⟨v, e2, rv⟩ := atI_rp l1 e
          exact .inl ⟨_, _, _, v, rfl, rfl, sqL_of g h1, e2, q.here g j rv⟩
    | _ => exact .inl rfl
  | tup ds =>
    cases b with
    | int i =>
      cases e : atI ds i with
      | none => exact .inl (by show ofO (atI ds i) _ = _; rw [e]; rfl)
      | some d =>
        refine .inr ⟨d, by show ofO (atI ds i) _ = _; rw [e]; rfl, fun W => rd_inl fun c G H v1 v2 g j r1 r2 Q q => ?_⟩
        cases r2
        cases r1 with
        | tup h1 l1 =>
          obtain ⟨v, e2, rv⟩ := atI_rp l1 e
          exact .inr (.inl ⟨_, _, _, v, rfl, rfl, sqT_of g h1, e2, q.here g j rv⟩)
    | _ => exact .inl rfl
  | str s =>
    cases b with
    | int i =>
      cases e : atI s.cps.toList i with
      | none => exact .inl (by show ofO (atI s.cps.toList i) _ = _; rw [e]; rfl)
      | some d =>
        by_cases hz : s.length ≤ 100000
        · refine .inr ⟨_, by show ofO (atI s.cps.toList i) _ = _; rw [e]; exact if_pos hz, fun W => rd_inl fun c G H v1 v2 g j r1 r2 Q q => ?_⟩
          cases r2
          cases r1
          exact .inr (.inr ⟨_, _, d, rfl, rfl, Nat.le_trans hz (by decide), e, q.here g j (.str _)⟩)
        · exact .inl (by show ofO (atI s.cps.toList i) _ = _; rw [e]; exact if_neg hz)
    | _ => exact .inl rfl
  | dic kvs =>
    have e0 : oIx (.dic kvs) b = ofO (keyD? b) fun k => ofO (lkD kvs k) .ret := by cases b <;> rfl
    rw [e0]
    cases e : keyD? b with
    | none => exact .inl rfl
    | some k =>
      cases e3 : lkD kvs k with
      | none => exact .inl (by show ofO (lkD kvs k) _ = _; rw [e3]; rfl)
      | some d =>
        refine .inr ⟨d, by show ofO (lkD kvs k) _ = _; rw [e3]; rfl, fun W => rd_inr fun c G H v1 v2 g j r1 r2 Q q => ?_⟩
        rw [keyD_eq e] at r2
        obtain ⟨x, o, e2, hd, ho, hv⟩ := dget_lk g r2 r1
        obtain ⟨v, e4, rv⟩ := hv d e3
        rw [e4] at hd
        exact ⟨x, v, e2, hd, q.here g j rv⟩
  | _ => cases b <;> exact .inl rfl
def uNeg : D → M D
  | .int i => .ret (.int (-i))
  | _ => .fail
theorem ok_neg : UnOk T (rU fun i => .int (-i)) uNeg := fun d => by
  cases d <;> first | exact .inl rfl | exact .inr ⟨_, rfl, fun W => rd1_neg⟩
end
end Fx

set_option Elab.async false
set_option linter.all false
set_option maxRecDepth 100000
set_option maxHeartbeats 4000000
/-! Built-in functions on plain data. -/
namespace Fx
open PySem PySem.Spec PyProof.Rows L2 LamX
section
variable {T : List (Addr × Str)} {K : PySem.W.Frag} {E : XK}
variable {W : Wld T} {G H G1 H1 G2 H2 H0 : Hp} {G0 : Hp × Hp} {c c' k : Nat} {z : Zw}
theorem rdl_l {r r' : List V → Hp → VK → Prop} {ds : List D} {d : D} (h : RDL W r ds d) : RDL W (fun xs H Q => r xs H Q ∨ r' xs H Q) ds d := rdl_inl h
theorem rdl_r {r r' : List V → Hp → VK → Prop} {ds : List D} {d : D} (h : RDL W r' ds d) : RDL W (fun xs H Q => r xs H Q ∨ r' xs H Q) ds d := rdl_inr h
/-! ### len -/
def bLen : List D → M D
  | [.lst ds] => .ret (.int ds.length)
  | [.tup ds] => .ret (.int ds.length)
  | [.dic kvs] => .ret (.int kvs.length)
  | [.str s] => ifM (s.length ≤ 100000) (.ret (.int s.length))
  | [.raw (.ref a)] => .ask a fun n => .ret (.int n)
  | _ => .fail
def rLenU (K : PySem.W.Frag) : List V → Hp → VK → Prop := fun xs H Q => (∃ p ys, xs = [.ref p] ∧ (SqL K H p ys ∨ SqT K H p ys) ∧ Q (.int ys.length) H) ∨ (∃ a kvs, xs = [V.ref a] ∧ Rd H a (.dK kvs) ∧ Q (.int kvs.length) H) ∨ ∃ z, xs = [.str z] ∧ z.length ≤ sizeLine ∧ Q (.int z.length) H
theorem klenU {X : Cx} (K : PySem.W.Frag) (h : X.K = K := by rfl) : CallR X (.builtin "len") (rLenU K) := by subst h; exact CallR.or call_len_seq (CallR.or klenD call_len_str)
theorem bf_len : BfOk T K (rLenU K) bLen := fun z c ds P X p G H vs g j rv Q q => by
  unfold bLen at p
  split at p
  · exact .inl <| rdl_len (K := K) c G H vs g j rv Q fun v G2 H2 s2 g2 j2 r2 => q v _ c G2 H2 s2 g2 j2 r2 p
  · exact .inl <| rdl_lenT (K := K) c G H vs g j rv Q fun v G2 H2 s2 g2 j2 r2 => q v _ c G2 H2 s2 g2 j2 r2 p
  · exact .inr <| .inl <| rdl_lenD c G H vs g j rv Q fun v G2 H2 s2 g2 j2 r2 => q v _ c G2 H2 s2 g2 j2 r2 p
  · rename_i s
    by_cases hz : s.length ≤ 100000
    · rw [ifM_pos hz] at p
      cases rv with
      | cons r1 r2 =>
        cases r2
        cases r1
        exact .inr (.inr ⟨s, rfl, Nat.le_trans hz (by decide), q _ _ c G H Stp.refl g j (.int _) p⟩)
    · unfold ifM at p; rw [if_neg hz] at p; exact p.elim
  · rename_i a
    obtain ⟨n, e, p⟩ := p
    cases z with
    | pu => cases e
    | dr sa ns Pm S lw lc cells =>
      have e : (if a = sa then some ns.length else none) = some n := e
      by_cases ha : a = sa
      · rw [if_pos ha] at e
        cases e
        subst ha
        exact .inl <| rdl_lenS (K := K) c G H vs g j rv Q fun v G2 H2 s2 g2 j2 r2 => q v _ c G2 H2 s2 g2 j2 r2 p
      · rw [if_neg ha] at e; cases e
  · exact p.elim
/-! ### any, all, min, max, sum, sorted -/
def bBs (f : List Bool → Bool) : List D → M D
  | [.lst ds] => ofO (asBls ds) fun bs => .ret (.bl (f bs))
  | _ => .fail
theorem bf_bs {r : List V → Hp → VK → Prop} {f : List Bool → Bool} (h : ∀ (W : Wld T) (bs : List Bool), RDL W r [.lst (bs.map .bl)] (.bl (f bs))) : BfOk T K r (bBs f) := bf_of fun ds => by
  unfold bBs
  split
  · rename_i ds
    cases e : asBls ds with
    | none => exact .inl rfl
    | some bs => rw [asBls_eq e]; exact .inr ⟨_, rfl, fun W => h W bs⟩
  · exact .inl rfl
abbrev bAny : List D → M D := bBs fun bs => bs.any id
abbrev bAll : List D → M D := bBs fun bs => bs.all id
theorem bf_any : BfOk T K (rAny K) bAny := bf_bs fun W bs => rdl_any
theorem bf_all : BfOk T K (rAll K) bAll := bf_bs fun W bs => rdl_all
def minI : List Int → Int
  | [] => 0
  | [a] => a
  | a :: r => min a (minI r)
def maxI : List Int → Int
  | [] => 0
  | [a] => a
  | a :: r => max a (maxI r)
theorem minI_mem : ∀ {ns : List Int}, ns ≠ [] → minI ns ∈ ns
  | [], h => absurd rfl h
  | [a], _ => List.mem_singleton.mpr rfl
  | a :: b :: r, _ => by
    show min a (minI (b :: r)) ∈ _
    have h := minI_mem (ns := b :: r) (by simp)
    rcases Int.le_total a (minI (b :: r)) with q | q
    · rw [Int.min_eq_left q]; exact List.mem_cons_self
    · rw [Int.min_eq_right q]; exact List.mem_cons_of_mem _ h
theorem minI_le : ∀ {ns : List Int} {y : Int}, y ∈ ns → minI ns ≤ y
  | [], y, h => by cases h
  | [a], y, h => by rw [List.mem_singleton.mp h]; exact Int.le_refl _
  | a :: b :: r, y, h => by
    show min a (minI (b :: r)) ≤ y
    rcases List.mem_cons.mp h with rfl | h
    · exact Int.min_le_left _ _
    · exact Int.le_trans (Int.min_le_right _ _) (minI_le h)
theorem maxI_mem : ∀ {ns : List Int}, ns ≠ [] → maxI ns ∈ ns
  | [], h => absurd rfl h
  | [a], _ => List.mem_singleton.mpr rfl
  | a :: b :: r, _ => by
    show max a (maxI (b :: r)) ∈ _
    have h := maxI_mem (ns := b :: r) (by simp)
    rcases Int.le_total a (maxI (b :: r)) with q | q
    · rw [Int.max_eq_right q]; exact List.mem_cons_of_mem _ h
    · rw [Int.max_eq_left q]; exact List.mem_cons_self
theorem maxI_ge : ∀ {ns : List Int} {y : Int}, y ∈ ns → y ≤ maxI ns
  | [], y, h => by cases h
  | [a], y, h => by rw [List.mem_singleton.mp h]; exact Int.le_refl _
  | a :: b :: r, y, h => by
    show y ≤ max a (maxI (b :: r))
    rcases List.mem_cons.mp h with rfl | h
    · exact Int.le_max_left _ _
    · exact Int.le_trans (maxI_ge h) (Int.le_max_right _ _)
def bMin : List D → M D
  | [.int a, .int b] => .ret (.int (min a b))
  | [.lst ds] => ofO (asInts ds) fun ns => ifM (ns ≠ []) (.ret (.int (minI ns)))
  | _ => .fail
def bMax : List D → M D
  | [.int a, .int b] => .ret (.int (max a b))
  | [.lst ds] => ofO (asInts ds) fun ns => ifM (ns ≠ []) (.ret (.int (maxI ns)))
  | _ => .fail
def rMinU (K : PySem.W.Frag) : List V → Hp → VK → Prop := fun xs H Q => (∃ i j, xs = [.int i, .int j] ∧ Q (.int (if j < i then j else i)) H) ∨ rMin K xs H Q
def rMaxU (K : PySem.W.Frag) : List V → Hp → VK → Prop := fun xs H Q => (∃ i j, xs = [.int i, .int j] ∧ Q (.int (if j > i then j else i)) H) ∨ rMax K xs H Q
theorem kminU {X : Cx} (K : PySem.W.Frag) (hc : X.calm = true) (h : X.K = K := by rfl) : CallR X (.builtin "min") (rMinU K) := by subst h; exact CallR.or (call_min2 hc) (cr_min hc)
theorem kmaxU {X : Cx} (K : PySem.W.Frag) (hc : X.calm = true) (h : X.K = K := by rfl) : CallR X (.builtin "max") (rMaxU K) := by subst h; exact CallR.or (call_max2 hc) (cr_max hc)
theorem bf_min : BfOk T K (rMinU K) bMin := bf_of fun ds => by
  unfold bMin
  split
  · exact .inr ⟨_, rfl, fun W => rdl_l rdl_min2⟩
  · rename_i ds
    cases e : asInts ds with
    | none => exact .inl rfl
    | some ns =>
      rw [asInts_eq e]
      by_cases h : ns ≠ []
      · exact .inr ⟨_, if_pos h, fun W => rdl_r (rdl_minL (minI_mem h) fun y hy => minI_le hy)⟩
      · exact .inl (if_neg h)
  · exact .inl rfl
theorem bf_max : BfOk T K (rMaxU K) bMax := bf_of fun ds => by
  unfold bMax
  split
  · exact .inr ⟨_, rfl, fun W => rdl_l rdl_max2⟩
  · rename_i ds
    cases e : asInts ds with
    | none => exact .inl rfl
    | some ns =>
      rw [asInts_eq e]
      by_cases h : ns ≠ []
      · exact .inr ⟨_, if_pos h, fun W => rdl_r (rdl_maxL (maxI_mem h) fun y hy => maxI_ge hy)⟩
      · exact .inl (if_neg h)
  · exact .inl rfl
def bSum : List D → M D
  | [.lst ds] => ofO (asInts ds) fun ns => .ret (.int ns.sum)
  | _ => .fail
theorem ksumU {X : Cx} (K : PySem.W.Frag) (hc : X.calm = true) (h : X.K = K := by rfl) : CallR X (.builtin "sum") (rSum K) := by subst h; exact cr_sum hc
theorem bf_sum : BfOk T K (rSum K) bSum := bf_of fun ds => by
  unfold bSum
  split
  · rename_i ds
    cases e : asInts ds with
    | none => exact .inl rfl
    | some ns =>
      rw [asInts_eq e]
      refine .inr ⟨_, rfl, fun W c G H vs g j r Q q => ?_⟩
      cases r with
      | cons r1 r2 =>
      cases r2
      cases r1 with
      | lst h rl =>
      rw [RpL.ints rl] at h
      exact ⟨_, ns, rfl, sqL_of g h, q.here g j (.int _)⟩
  · exact .inl rfl
def bSorted : List D → M D
  | [.lst ds] => ofO (asInts ds) fun ns => .ret (dLI (isI ns))
  | _ => .fail
theorem bf_sorted : BfOk T K (rSortedI K) bSorted := bf_of fun ds => by
  unfold bSorted
  split
  · rename_i ds
    cases e : asInts ds with
    | none => exact .inl rfl
    | some ns => rw [asInts_eq e]; exact .inr ⟨_, rfl, fun W => rdl_sortI⟩
  · exact .inl rfl
/-! ### list, tuple, int, abs, str -/
def bTuple : List D → M D
  | [.lst ds] => .ret (.tup ds)
  | [.tup ds] => .ret (.tup ds)
  | _ => .fail
theorem bf_tuple : BfOk T K (fun xs H Q => ∃ p ys, xs = [.ref p] ∧ ((SqL K H p ys ∧ ∀ l, H l = none → Q (.ref l) (upd H l (.tup ys))) ∨ (SqT K H p ys ∧ Q (.ref p) H))) bTuple := bf_of fun ds => by
  unfold bTuple
  split
  · exact .inr ⟨_, rfl, fun W => rdl_tupL⟩
  · exact .inr ⟨_, rfl, fun W => rdl_tupT⟩
  · exact .inl rfl
def seqM : D → M (List D)
  | .lst ds => .ret ds
  | .tup ds => .ret ds
  | _ => .fail
def nList (f : Env' → M D) : Env' → M (List D) := fun env => (f env).bind seqM
theorem sn_list {te : TE} {f : Env' → M D} (h : SE T K E te f) : SN T K E (tCB (fun xs H Q => ∃ p ys, xs = [.ref p] ∧ (SqL K H p ys ∨ SqT K H p ys) ∧ ∀ l, H l = none → Q (.ref l) (upd H l (.lst ys))) (tCons te tNil)) (nList f) := fun z c env P X p G0 H0 σ G H A Q q x =>
  h z c env _ X (wpM_bind.mp p) G0 H0 σ G H A _ (fun v d c1 G1 H1 s1 g1 j1 r1 p1 => by
    have key : ∀ {xs : List V} {ds : List D} {a : Addr}, v = .ref a → (SqL K H1 a xs ∨ SqT K H1 a xs) → RpL G1 xs ds → P ds c1 → ∃ p ys, [v] = [.ref p] ∧ (SqL K H1 p ys ∨ SqT K H1 p ys) ∧ ∀ l, H1 l = none → Q (.ref l) (upd H1 l (.lst ys)) := fun {xs ds a} e hs rl pp => by
      subst e
      exact ⟨a, xs, rfl, hs, fun l hl => q l xs ds c1 G1 _ (stp_upd s1 (s1.dom l (nf_none hl)) (noTb_lst _)) (gok_upd g1 (g1.none hl)) (J_new j1 hl) upd_same (g1.none hl) (s1.dom l (nf_none hl)) (fun m => (z.w T K).mtr j1 m (nf_none hl)) rl pp⟩
    cases r1 with
    | lst ha ra => exact key rfl (.inl (sqL_of g1 ha)) ra p1
    | tup ha ra => exact key rfl (.inr (sqT_of g1 ha)) ra p1
    | _ => exact p1.elim) x
def tinyI (a : Int) : Bool := match a with
  | .ofNat n => Nat.ble n 10000
  | _ => false
theorem tinyI_of {a : Int} (h : 0 ≤ a ∧ a ≤ 10000) : tinyI a = true := by
  cases a with
  | ofNat n => exact Nat.ble_eq_true_of_le (by have := h.2; simp at this; omega)
  | negSucc n => have := h.1; omega
theorem tinyI_le {a : Int} (h : tinyI a = true) : 0 ≤ a ∧ a ≤ 10000 := by
  cases a with
  | ofNat n =>
    have : n ≤ 10000 := Nat.le_of_ble_eq_true h
    exact ⟨Int.natCast_nonneg n, by simp; omega⟩
  | negSucc n => cases h
def rgM (a b : Int) (f : List Int → D) : M D := ifM ((tinyI a && tinyI b) = true) (.ret (f (rgD a b)))
def eRg1 (k : List Int → D) (f : Env' → M D) : Env' → M D := fun env => (f env).bind fun d => match d with
  | .int b => rgM 0 b k
  | _ => .fail
def eRg2 (k : List Int → D) (f g : Env' → M D) : Env' → M D := fun env => (f env).bind fun d => (g env).bind fun e => match d, e with
  | .int a, .int b => rgM a b k
  | _, _ => .fail
theorem rgM_wp {a b : Int} {k : List Int → D} {P : D → Nat → Prop} {X : PX} (h : wpM z (rgM a b k) c P X) : (0 ≤ a ∧ a ≤ 10000 ∧ 0 ≤ b ∧ b ≤ 10000) ∧ P (k (rgD a b)) c := by
  unfold rgM ifM at h
  split at h
  · rename_i hc
    rw [Bool.and_eq_true] at hc
    have h1 := tinyI_le hc.1
    have h2 := tinyI_le hc.2
    exact ⟨by omega, h⟩
  · exact h.elim
theorem se_lRg1 {te : TE} {f : Env' → M D} (h : SE T K E te f) : SE T K E (tLstRg (tRg1 te)) (eRg1 dLI f) := fun z c env P X p G0 H0 σ G H A Q q x =>
  h z c env _ X (wpM_bind.mp p) G0 H0 σ G H A _ (fun v d c1 G1 H1 s1 g1 j1 r1 p1 => by
    cases r1 with
    | int b =>
      obtain ⟨hb, pp⟩ := rgM_wp p1
      refine ⟨b, rfl, .of_le (Int.le_refl 0) (by omega) (by omega) hb.2.2.1, fun p hp => ?_⟩
      rw [rgV_eq]
      exact q (.ref p) _ c1 _ _ (s1.trans (stp_new g1 hp)) (gok_new g1 j1 hp (noTb_lst _)) (J_new j1 hp) (.lst upd_same (RpL.of_ints _)) pp
    | _ => exact p1.elim) x
theorem se_tRg1 {te : TE} {f : Env' → M D} (h : SE T K E te f) : SE T K E (tTupRg (tRg1 te)) (eRg1 dI f) := fun z c env P X p G0 H0 σ G H A Q q x =>
  h z c env _ X (wpM_bind.mp p) G0 H0 σ G H A _ (fun v d c1 G1 H1 s1 g1 j1 r1 p1 => by
    cases r1 with
    | int b =>
      obtain ⟨hb, pp⟩ := rgM_wp p1
      refine ⟨b, rfl, .of_le (Int.le_refl 0) (by omega) (by omega) hb.2.2.1, fun p hp => ?_⟩
      rw [rgV_eq]
      exact q (.ref p) _ c1 _ _ (s1.trans (stp_new g1 hp)) (gok_new g1 j1 hp (noTb_tup _)) (J_new j1 hp) (.tup upd_same (RpL.of_ints _)) pp
    | _ => exact p1.elim) x
theorem se_lRg2 {te ue : TE} {f g : Env' → M D} (h : SE T K E te f) (h' : SE T K E ue g) : SE T K E (tLstRg (tRg2 te ue)) (eRg2 dLI f g) := fun z c env P X p G0 H0 σ G H A Q q x =>
  h z c env _ X (wpM_bind.mp p) G0 H0 σ G H A _ (fun v d c1 G1 H1 s1 g1 j1 r1 p1 => h' z c1 env _ X (wpM_bind.mp p1) G0 H0 σ G1 H1 (A.step s1 g1 j1) _ (fun v2 d2 c2 G2 H2 s2 g2 j2 r2 p2 => by
    cases r1 with
    | int a =>
      cases r2 with
      | int b =>
        obtain ⟨hb, pp⟩ := rgM_wp p2
        refine ⟨a, b, rfl, rfl, .of_le (by omega) (by omega) (by omega) (by omega), fun p hp => ?_⟩
        rw [rgV_eq]
        exact q (.ref p) _ c2 _ _ ((s1.trans s2).trans (stp_new g2 hp)) (gok_new g2 j2 hp (noTb_lst _)) (J_new j2 hp) (.lst upd_same (RpL.of_ints _)) pp
      | _ => exact p2.elim
    | _ => exact p2.elim) (x.step s1)) x
theorem se_tRg2 {te ue : TE} {f g : Env' → M D} (h : SE T K E te f) (h' : SE T K E ue g) : SE T K E (tTupRg (tRg2 te ue)) (eRg2 dI f g) := fun z c env P X p G0 H0 σ G H A Q q x =>
  h z c env _ X (wpM_bind.mp p) G0 H0 σ G H A _ (fun v d c1 G1 H1 s1 g1 j1 r1 p1 => h' z c1 env _ X (wpM_bind.mp p1) G0 H0 σ G1 H1 (A.step s1 g1 j1) _ (fun v2 d2 c2 G2 H2 s2 g2 j2 r2 p2 => by
    cases r1 with
    | int a =>
      cases r2 with
      | int b =>
        obtain ⟨hb, pp⟩ := rgM_wp p2
        refine ⟨a, b, rfl, rfl, .of_le (by omega) (by omega) (by omega) (by omega), fun p hp => ?_⟩
        rw [rgV_eq]
        exact q (.ref p) _ c2 _ _ ((s1.trans s2).trans (stp_new g2 hp)) (gok_new g2 j2 hp (noTb_tup _)) (J_new j2 hp) (.tup upd_same (RpL.of_ints _)) pp
      | _ => exact p2.elim
    | _ => exact p2.elim) (x.step s1)) x
def bInt : List D → M D
  | [.int a] => .ret (.int a)
  | _ => .fail
theorem bf_int : BfOk T K (fun xs H Q => (∃ i, xs = [.int i] ∧ Q (.int i) H) ∨ ∃ k, xs = [.bl k] ∧ Q (.int (if k then 1 else 0)) H) bInt := bf_of fun ds => by
  unfold bInt
  split
  · exact .inr ⟨_, rfl, fun W => rdl_int⟩
  · exact .inl rfl
def bAbs : List D → M D
  | [.int a] => .ret (.int (a.natAbs : Nat))
  | _ => .fail
theorem bf_abs : BfOk T K (fun xs H Q => ∃ i, xs = [.int i] ∧ Q (.int (if i < 0 then -i else i)) H) bAbs := bf_of fun ds => by
  unfold bAbs
  split
  · exact .inr ⟨_, rfl, fun W => rdl_abs⟩
  · exact .inl rfl
def bStr : List D → M D
  | [.int a] => ifM (a.natAbs.log2 < 1920) (.ret (.str (toString a)))
  | _ => .fail
theorem bf_str : BfOk T K (fun xs H Q => ∃ i, xs = [.int i] ∧ i.natAbs.log2 < 1920 ∧ Q (.str (toString i)) H) bStr := bf_of fun ds => by
  unfold bStr
  split
  · rename_i a
    by_cases h : a.natAbs.log2 < 1920
    · exact .inr ⟨_, if_pos h, fun W => rdl_strI h⟩
    · exact .inl (if_neg h)
  · exact .inl rfl
/-! ### repr -/
def isSq : D → Bool
  | .tup _ => true
  | .lst _ => true
  | _ => false
def bRepr : List D → M D
  | [.non] => .ret (.str "None")
  | [.int i] => ifM (i.natAbs.log2 < 1920) (.ret (.str (toString i)))
  | [d] => ifM (isSq d = true ∧ D.ok 64 d = true ∧ d.py.showable = true ∧ d.py.shown.length ≤ sizeLine) (.ret (.str d.py.shown))
  | _ => .fail
theorem bf_repr : BfOk T K (rReprA K) bRepr := bf_of fun ds => by
  unfold bRepr
  split
  · exact .inr ⟨_, rfl, fun W => rdl_reprS (.inl rfl)⟩
  · rename_i i
    by_cases h : i.natAbs.log2 < 1920
    · exact .inr ⟨_, if_pos h, fun W => rdl_reprS (.inr ⟨i, rfl, h⟩)⟩
    · exact .inl (if_neg h)
  · rename_i d _ _
    by_cases h : isSq d = true ∧ D.ok 64 d = true ∧ d.py.showable = true ∧ d.py.shown.length ≤ sizeLine
    · refine .inr ⟨_, if_pos h, fun W => rdl_reprL ?_ h.2.1 (by decide) h.2.2.1 h.2.2.2⟩
      have h1 := h.1
      cases d <;> first | exact .inl ⟨_, rfl⟩ | exact .inr ⟨_, rfl⟩ | cases h1
    · exact .inl (if_neg h)
  · exact .inl rfl
/-! ### isinstance -/
def D.ty : D → Option String
  | .non => some "NoneType"
  | .bl _ => some "bool"
  | .int _ => some "int"
  | .str _ => some "str"
  | .tup _ => some "tuple"
  | .lst _ => some "list"
  | .dic _ => some "dict"
  | _ => none
theorem ty_of {d : D} {t : String} (h : d.ty = some t) : TyD d t := by
  cases d <;> cases h <;> constructor
def clsL : List String := ["int", "bool", "str", "tuple", "list", "dict"]
def isTy (t C : String) : Bool := t == C || (t == "bool" && C == "int")
theorem kit_isTy {t C : String} (ht : t ∈ ["NoneType", "bool", "int", "str", "tuple", "list", "dict"]) (hC : C ∈ clsL) : PySem.W.kitOne K (.type t) (.type C) = some (isTy t C) := by
  simp only [List.mem_cons, List.mem_nil_iff, or_false] at ht
  simp only [clsL, List.mem_cons, List.mem_nil_iff, or_false] at hC
  rcases ht with rfl | rfl | rfl | rfl | rfl | rfl | rfl <;> rcases hC with rfl | rfl | rfl | rfl | rfl | rfl <;> exact kit_ty (by decide +kernel)
theorem ty_mem {d : D} {t : String} (h : d.ty = some t) : t ∈ ["NoneType", "bool", "int", "str", "tuple", "list", "dict"] := by
  cases d <;> cases h <;> simp
def asTys : List D → Option (List String)
  | [] => some []
  | .raw (.ty C) :: r => if C ∈ clsL then (asTys r).map (C :: ·) else none
  | _ => none
theorem asTys_eq : ∀ {ds : List D} {Cs : List String}, asTys ds = some Cs → ds = Cs.map (fun C => .raw (.ty C)) ∧ ∀ C ∈ Cs, C ∈ clsL
  | [], Cs, e => by cases e; exact ⟨rfl, fun C h => by cases h⟩
  | .raw (.ty C) :: r, Cs, e => by
    have e : (if C ∈ clsL then (asTys r).map (C :: ·) else none) = some Cs := e
    by_cases h : C ∈ clsL
    · rw [if_pos h] at e
      obtain ⟨m, h2, rfl⟩ := Option.map_eq_some_iff.mp e
      obtain ⟨h3, h4⟩ := asTys_eq h2
      exact ⟨by rw [h3]; rfl, fun D hD => (List.mem_cons.mp hD).elim (fun z => z ▸ h) (h4 D)⟩
    · rw [if_neg h] at e; cases e
  | .non :: _, _, e => by cases e
  | .bl _ :: _, _, e => by cases e
  | .int _ :: _, _, e => by cases e
  | .str _ :: _, _, e => by cases e
  | .tup _ :: _, _, e => by cases e
  | .lst _ :: _, _, e => by cases e
  | .dic _ :: _, _, e => by cases e
  | .raw .non :: _, _, e => by cases e
  | .raw (.bl _) :: _, _, e => by cases e
  | .raw (.int _) :: _, _, e => by cases e
  | .raw (.str _) :: _, _, e => by cases e
  | .raw (.byt _) :: _, _, e => by cases e
  | .raw (.flt _) :: _, _, e => by cases e
  | .raw (.ref _) :: _, _, e => by cases e
  | .exc _ _ :: _, _, e => by cases e
theorem kit_any {t : String} (ht : t ∈ ["NoneType", "bool", "int", "str", "tuple", "list", "dict"]) : ∀ {Cs : List String}, (∀ C ∈ Cs, C ∈ clsL) → Cs ≠ [] → PySem.W.kitAny K (.type t) (Cs.map Value.type) = some (Cs.any (isTy t))
  | [], _, h => absurd rfl h
  | [C], h, _ => by
    have q := kit_isTy (K := K) ht (h C List.mem_cons_self)
    show PySem.W.kitAny K (.type t) [Value.type C] = some (isTy t C || false)
    rw [Bool.or_false]
    cases e : isTy t C with
    | true => exact kitAny_cons (b := true) (by rw [q, e]) (fun z => by cases z) fun _ => rfl
    | false => exact kitAny_cons (b := false) (by rw [q, e]) (fun _ => rfl) fun z => by cases z
  | C :: C' :: r, h, _ => by
    have q := kit_isTy (K := K) ht (h C List.mem_cons_self)
    have ih := kit_any ht (Cs := C' :: r) (fun D hD => h D (List.mem_cons_of_mem _ hD)) (by simp)
    show PySem.W.kitAny K (.type t) (Value.type C :: (C' :: r).map Value.type) = some (isTy t C || (C' :: r).any (isTy t))
    cases e : isTy t C with
    | true => exact kitAny_cons (b := true) (by rw [q, e]) (fun z => by cases z) fun _ => rfl
    | false => exact kitAny_cons (b := false) (by rw [q, e]) (fun _ => ih) fun z => by cases z
/-- L: the classes of errors that are asked for -/
def bIsi (L : List Addr) : List D → M D
  | [.exc C _, .raw (.ref C2)] => ifM (C = C2 ∧ C ∈ L) (.ret (.bl true))
  | [d, .raw (.ty C)] => ofO d.ty fun t => ifM (C ∈ clsL) (.ret (.bl (isTy t C)))
  | [d, .tup cs] => ofO d.ty fun t => ofO (asTys cs) fun Cs => ifM (Cs ≠ []) (.ret (.bl (Cs.any (isTy t))))
  | _ => .fail
def rIsA (K : PySem.W.Frag) : List V → Hp → VK → Prop := fun xs H Q => rIsU K xs H Q ∨ rIsiT K xs H Q
theorem kisA {X : Cx} (K : PySem.W.Frag) (h : X.K = K := by rfl) : CallR X (.builtin "isinstance") (rIsA K) := by subst h; exact CallR.or call_isU call_isiT
theorem bf_isi {L : List Addr} (hL : ∀ C ∈ L, ExcC K C ∧ PySem.W.kitOne K (.ref C) (.ref C) = some true) : BfOk T K (rIsA K) (bIsi L) := bf_of fun ds => by
  unfold bIsi
  split
  · rename_i C fs C2
    by_cases h : C = C2 ∧ C ∈ L
    · obtain ⟨rfl, hC⟩ := h
      exact .inr ⟨_, if_pos ⟨rfl, hC⟩, fun W => rdl_l (rdl_isX (hL C hC).1 (hL C hC).2)⟩
    · exact .inl (if_neg h)
  · rename_i d C
    cases e : d.ty with
    | none => exact .inl rfl
    | some t =>
      by_cases h : C ∈ clsL
      · exact .inr ⟨_, if_pos h, fun W => rdl_l (rdl_inl (rdl_isi (ty_of e) (kit_isTy (ty_mem e) h)))⟩
      · exact .inl (if_neg h)
  · rename_i d cs
    cases e : d.ty with
    | none => exact .inl rfl
    | some t =>
      cases e2 : asTys cs with
      | none => exact .inl rfl
      | some Cs =>
        obtain ⟨h1, h2⟩ := asTys_eq e2
        subst h1
        by_cases h : Cs ≠ []
        · exact .inr ⟨_, if_pos h, fun W => rdl_r (rdl_isiT (ty_of e) (kit_any (ty_mem e) h2 h))⟩
        · exact .inl (if_neg h)
  · exact .inl rfl
end
end Fx

set_option Elab.async false
set_option linter.all false
set_option maxRecDepth 100000
set_option maxHeartbeats 4000000
/-! Defs as functions into trees of draws; calls of them; what is caught; keys; the law's own run. -/
namespace Fx
open PySem PySem.Spec PyProof.Rows L2 LamX C8
def fnOut : Out → M D
  | .rt d => .ret d
  | .nx _ => .ret .non
  | _ => .fail
/-- a def of n parameters and N names -/
def fnM (n N : Nat) (g : Env' → M Out) : List D → M D := fun ds => if ds.length = n then (g (env0 ds (N - n))).bind fnOut else .fail
/-- called with such data, the def ends as f says -/
def SpM (T : List (Addr × Str)) (K : PySem.W.Frag) (f : List D → M D) : Sp := fun vs H Q E => ∃ (z : Zw) (G : Hp) (c : Nat) (ds : List D) (P : D → Nat → Prop) (X : PX), GOk (z.w T K) G H ∧ (z.w T K).J c H ∧ RpL G vs ds ∧ wpM z (f ds) c P X ∧
  (∀ v d c2 G2 H2, Stp (z.w T K) G H G2 H2 → GOk (z.w T K) G2 H2 → (z.w T K).J c2 H2 → Rp G2 v d → P d c2 → Q v H2) ∧ XOk T (z.w T K) E G H X
section
variable {T : List (Addr × Str)} {K : PySem.W.Frag} {E : XK}
variable {W : Wld T} {G H G1 H1 G2 H2 H0 : Hp} {G0 : Hp × Hp} {c c' k : Nat} {z : Zw}
theorem fnM_len {n N : Nat} {g : Env' → M Out} {ds : List D} {P : D → Nat → Prop} {X : PX} (h : wpM z (fnM n N g ds) c P X) : ds.length = n ∧ wpM z (g (env0 ds (N - n))) c (fun o c2 => wpM z (fnOut o) c2 P X) X := by
  unfold fnM at h
  by_cases e : ds.length = n
  · rw [if_pos e] at h; exact ⟨e, wpM_bind.mp h⟩
  · rw [if_neg e] at h; exact h.elim
theorem SpM.len {n N : Nat} {g : Env' → M Out} {vs : List V} {H : Hp} {Q : VK} (h : SpM T K (fnM n N g) vs H Q E) : vs.length = n := by
  obtain ⟨z, G, c, ds, P, X, g1, j, r, p, q, x⟩ := h
  rw [r.len, (fnM_len p).1]
theorem body_M {N : List Str} {n : Nat} {g : Env' → M Out} {t : TS} {vs : List V} {H : Hp} {Q : VK} (hn : n ≤ N.length) (hs : SS T K E t g) (h : SpM T K (fnM n N.length g) vs H Q E) : t { nx := fun _ H' => Q .non H', rt := Q } (L2.start N vs) H := by
  obtain ⟨z, G, c, ds, P, X, g1, j, r, p, q, x⟩ := h
  obtain ⟨hl, p⟩ := fnM_len p
  have A := at_start (W := z.w T K) (c := c) (N := N) g1 j r (by rw [hl]; exact hn)
  rw [hl] at A
  exact hs z c _ _ X p (G, G) H _ G H A _ ⟨fun σ2 e2 c2 G2 H2 A2 e => q .non .non c2 G2 H2 A2.st A2.gok A2.j .non e, fun v d2 c2 G2 H2 s g j r2 e => q v d2 c2 G2 H2 s g j r2 e, fun _ _ _ _ _ _ z => z.elim, fun _ _ _ _ _ _ z => z.elim, fun C fs d c2 G2 H2 s g j xd e => x C fs d c2 G2 H2 s g j xd e⟩
section
variable {P : Program} {w : World} {mg : Str → Option Value} {base : Heap}
theorem calM {x : Str} {st : Stmt} {N ps : List Str} {k n m : Nat} {cdv : Value} {g : Env' → M Out} (F : Df K mg x st ps cdv) (S : C8.scC N ps (C8.fnScope st) = true) (h1 : ps.length = n) (h2 : N.length = m)
    (hbody : ∀ (a : Addr) (A : Around) (outer : List Env) (s : Shared) (H : Hp) (E : XK), Room k (A.deeper (envOfC x (C8.fnScope st) s.heap.objs.size a cdv)) →
      ∃ t, PSs (cxOf (L2.CX P w) P w K mg base N x (C8.fnScope st) a cdv A outer s H E) (C8.fnBody st) t ∧ SS T K E t g) : CalX P w K mg base (k + 1) x (SpM T K (fnM n m g)) := by
  subst h1 h2
  obtain ⟨fa, oc, od, kV, doc, pm, an, ct, osl, lk, hcd, hm, kp, hb⟩ := F.ex
  have hn : ps.length ≤ N.length := by
    have := (C8.fnScope_by S).pre
    rw [← this, List.length_take]
    omega
  refine ⟨fa, _, ps, fn_of lk hcd (C8.fnScope_by S) (fun vs H Q E h => h.len) fun A outer s H vs Q E hr hsp => ?_, hm, kp, hb⟩
  obtain ⟨t, h, q⟩ := hbody fa A outer s H E hr
  exact ⟨t, h, body_M hn q hsp⟩
theorem calMK {x : Str} {st : Stmt} {N ps : List Str} {k n m : Nat} {cdv : Value} {g : Env' → M Out} (F : DfK K mg x st ps cdv) (S : C8.scC N ps (C8.fnScope st) = true) (h1 : ps.length = n) (h2 : N.length = m)
    (hbody : ∀ (a : Addr) (A : Around) (outer : List Env) (s : Shared) (H : Hp) (E : XK), Room k (A.deeper (envOfC x (C8.fnScope st) s.heap.objs.size a cdv)) →
      ∃ t, PSs (cxOf (L2.CX P w) P w K mg base N x (C8.fnScope st) a cdv A outer s H E) (C8.fnBody st) t ∧ SS T K E t g) : CalXK P w K mg base (k + 1) x ps (SpM T K (fnM n m g)) := by
  subst h1 h2
  obtain ⟨fa, oc, od, kV, doc, pm, an, ct, osl, lk, hcd, hm, kp, hb, hb2⟩ := F.ex
  have hn : ps.length ≤ N.length := by
    have := (C8.fnScope_by S).pre
    rw [← this, List.length_take]
    omega
  refine ⟨fa, _, fn_of lk hcd (C8.fnScope_by S) (fun vs H Q E h => h.len) fun A outer s H vs Q E hr hsp => ?_, hm, kp, hb, hb2⟩
  obtain ⟨t, h, q⟩ := hbody fa A outer s H E hr
  exact ⟨t, h, body_M hn q hsp⟩
/-- a def of which nothing is promised -/
theorem calM_none {x : Str} {st : Stmt} {ps : List Str} {k : Nat} {cdv : Value} (F : Df K mg x st ps cdv) : CalX P w K mg base k x (SpM T K fun _ => .fail) := by
  obtain ⟨f, oc, od, kV, doc, pm, an, ct, osl, lk, hcd, hm, kp, hb⟩ := F.ex
  refine ⟨f, _, ps, ⟨fun vs H Q E h => ?_, fun A outer s H args us vs Q E _ _ _ _ h => ?_⟩, hm, kp, hb⟩
  · obtain ⟨z, G, c, ds, P, X, g1, j, r, p, q, x⟩ := h; exact p.elim
  · obtain ⟨z, G, c, ds, P, X, g1, j, r, p, q, x⟩ := h; exact p.elim
theorem calX_mono {x : Str} {k k' : Nat} {sp : Sp} (h : CalX P w K mg base k x sp) (e : k = k') : CalX P w K mg base k' x sp := e ▸ h
end
/-! ### calls -/
def eCall (f : List D → M D) (g : Env' → M (List D)) : Env' → M D := fun env => (g env).bind f
theorem se_call {f : List D → M D} {ta : TA} {g : Env' → M (List D)} (h : SA T K E ta g) : SE T K E (tCall (SpM T K f) [] E ta) (eCall f g) := fun z c env P X p G0 H0 σ G H A Q q x =>
  h z c env _ X (wpM_bind.mp p) G0 H0 σ G H A _ (fun vs ds c1 G1 H1 s1 g1 j1 r1 p1 => by
    rw [List.append_nil]
    exact ⟨z, G1, c1, ds, P, X, g1, j1, r1, p1, fun v d c2 G2 H2 s g j r pd => q v d c2 G2 H2 (s1.trans s) g j r pd, x.step s1⟩) x
/-- by keywords, told from the last one -/
def eCallR (n : Nat) (f : List D → M D) (g : Env' → M (List D)) : Env' → M D := fun env => (g env).bind fun ds => ifM (ds.length = n) (f ds.reverse)
theorem se_callR {n : Nat} {f : List D → M D} {ta : TA} {g : Env' → M (List D)} (h : SA T K E ta g) : SE T K E (tCallR (SpM T K f) E n ta) (eCallR n f g) := fun z c env P X p G0 H0 σ G H A Q q x =>
  h z c env _ X (wpM_bind.mp p) G0 H0 σ G H A _ (fun vs ds c1 G1 H1 s1 g1 j1 r1 p1 => by
    unfold ifM at p1
    by_cases e : ds.length = n
    · rw [if_pos e] at p1
      exact ⟨by rw [r1.len, e], z, G1, c1, ds.reverse, P, X, g1, j1, r1.rev, p1, fun v d c2 G2 H2 s g j r pd => q v d c2 G2 H2 (s1.trans s) g j r pd, x.step s1⟩
    · rw [if_neg e] at p1; exact p1.elim) x
/-- the draw -/
def drawF : List D → M D
  | [.raw (.ref S), .int n] => .draw S n fun x => .ret (.int x)
  | _ => .fail
theorem se_draw {E' : XK} {ta : TA} {g : Env' → M (List D)} (h : SA T K E ta g) : SE T K E (tCall (SpSx T 1 fDraw) [] E' ta) (eCall drawF g) := fun z c env P X p G0 H0 σ G H A Q q x =>
  h z c env _ X (wpM_bind.mp p) G0 H0 σ G H A _ (fun vs ds c1 G1 H1 s1 g1 j1 r1 p1 => by
    rw [List.append_nil]
    unfold drawF at p1
    split at p1
    · rename_i S n
      obtain ⟨hS, n0, n1, hc, p1⟩ := p1
      cases z with
      | pu => exact hS.elim
      | dr sa ns Pm S' lw lc cells =>
        have hS : S = S' := hS
        subst hS
        refine ⟨WS T K sa ns Pm, S, lw, lc, cells, G1, c1, _, fun d => ∃ x : Int, d = .int x ∧ 0 ≤ x ∧ x < n, g1, j1, hc, r1, ⟨n, rfl, n0, n1, fun x h0 h1 => ⟨x, rfl, h0, h1⟩⟩, fun v d G2 H2 s g j r hd => ?_⟩
        obtain ⟨y, rfl, y0, y1⟩ := hd
        exact q v _ (c1 + 1) G2 H2 (s1.trans s) g j r (p1 y y0 y1)
    · exact p1.elim) x
/-- the def that catches, of a lambda -/
def eCau (L : List Addr) (f : Env' → M D) : Env' → M D := fun env => (f env).cau L
theorem se_cau {L : List Addr} {CS : Addr} {t : XK → TE} {f : Env' → M D} (hL : ∀ C ∈ L, PySem.W.exmOne K (.ref C) (.ref CS) = some true) (h : ∀ E', SE T K E' (t E') f) : SE T K E (tLam T (TCau K CS) t) (eCau L f) := fun z c env P X p G0 H0 σ G H A Q q x => by
  refine ⟨(z.w T K).tabs A.j, fun H1 e1 t1 => ?_⟩
  have s1 := stp_extN A.gok e1
  have g1 := gok_extN A.gok e1
  have j1 := J_extN A.j e1 t1
  refine h _ z c env _ _ (wpM_cau p) G0 H0 σ G H1 (A.step s1 g1 j1) _ (fun v d c2 G2 H2 s g j r pd => q .non .non c2 G2 H2 (s1.trans s) g j .non pd) fun C fs dd c2 G2 H2 s g j xd pd => ⟨C, rfl, hL C pd.1, fun a ha => ?_⟩
  have sn := same_new (g.none ha) (ExO C a dd)
  exact q (.ref a) _ c2 _ _ ((s1.trans s).trans (stp_new g ha)) (gok_new g j ha (noTb_ext _)) (J_new j ha) ((xd.mono sn).rp upd_same) pd.2
/-! ### a field of an error -/
def eFld (L : List Addr) (n : Str) (f : Env' → M D) : Env' → M D := fun env => (f env).bind fun d => match d with
  | .exc C fs => if C ∈ L then ofO (fs.lookup n) .ret else .fail
  | _ => .fail
theorem se_fld {L : List Addr} {n : Str} {te : TE} {f : Env' → M D} (hL : ∀ C ∈ L, XfC K C ∧ PySem.W.findIn K (.ref C) n = some none) (h : SE T K E te f) : SE T K E (tFld K n te) (eFld L n f) := fun z c env P X p G0 H0 σ G H A Q q x =>
  h z c env _ X (wpM_bind.mp p) G0 H0 σ G H A _ (fun v d c1 G1 H1 s1 g1 j1 r1 p1 => by
    cases r1 with
    | @exc1 a C dd vs fs h h' rf =>
      have p1 : wpM z (if C ∈ L then ofO (fs.lookup n) .ret else .fail) c1 P X := p1
      by_cases hC : C ∈ L
      · rw [if_pos hC] at p1
        cases e : fs.lookup n with
        | none => rw [e] at p1; exact p1.elim
        | some d =>
          rw [e] at p1
          obtain ⟨v, e1, r2⟩ := rf.lookup e
          exact ⟨_, _, _, _, v, rfl, g1.same _ _ h, (hL C hC).1, (hL C hC).2, g1.same _ _ h', e1, q v d c1 G1 H1 s1 g1 j1 r2 p1⟩
      · rw [if_neg hC] at p1; exact p1.elim
    | @exc0 a C h =>
      have p1 : wpM z (if C ∈ L then ofO (([] : List (Str × D)).lookup n) .ret else .fail) c1 P X := p1
      by_cases hC : C ∈ L
      · rw [if_pos hC] at p1; exact p1.elim
      · rw [if_neg hC] at p1; exact p1.elim
    | _ => exact p1.elim) x
/-! ### a list that still changes, looked at -/
def flatD : D → Bool
  | .non => true
  | .bl _ => true
  | .int _ => true
  | .str _ => true
  | _ => false
theorem flat_rp {v : V} {d : D} (h : flatD d = true) (r : Rp G v d) : Rp G1 v d := by
  cases r with
  | non => exact .non
  | bl b => exact .bl b
  | int i => exact .int i
  | str s => exact .str s
  | _ => cases h
theorem At.peek {σ : L2.St} {env : Env'} (A : At W G0 H0 c G H σ env) (i : Nat) : ∃ G', At W G0 H0 c G' H σ (Fx.frzE i env) ∧ ∀ (G2 H2 : Hp), Stp W G' H G2 H2 → GOk W G2 H2 → Stp W G H G H2 ∧ GOk W G H2 := by
  obtain ⟨G', A'⟩ := A.frzE i
  refine ⟨G', A', fun G2 H2 s g => ⟨⟨fun _ _ h => h, s.hh, fun a h => .inl h, s.dom⟩, fun a o h => ?_⟩⟩
  obtain ⟨h1, h2, h3⟩ := A.gok a o h
  exact ⟨s.hh a o h1 h3 h2, h2, h3⟩
def ePeek (i : Nat) (f : Env' → M D) : Env' → M D := fun env => (f (frzE i env)).nox.bind fun d => ifM (flatD d = true) (.ret d)
theorem se_peek {te : TE} {f : Env' → M D} (i : Nat) (h : SE T K XF te f) : SE T K E te (ePeek i f) := fun z c env P X p G0 H0 σ G H A Q q x => by
  obtain ⟨G', A', hb⟩ := A.peek i
  refine h z c _ _ _ (wpM_nox (wpM_bind.mp p)) G0 H0 σ G' H A' _ (fun v d c1 G1 H1 s1 g1 j1 r1 p1 => ?_) XOk.none
  unfold ifM at p1
  by_cases e : flatD d = true
  · rw [if_pos e] at p1
    obtain ⟨s2, g2⟩ := hb G1 H1 s1 g1
    exact q v d c1 G H1 s2 g2 j1 (flat_rp e r1) p1
  · rw [if_neg e] at p1; exact p1.elim
def bPeek (i : Nat) (f : Env' → M Bool) : Env' → M Bool := fun env => (f (frzE i env)).nox
theorem sb_peek {tt : TT} {f : Env' → M Bool} (i : Nat) (h : SB T K XF tt f) : SB T K E tt (bPeek i f) := fun z c env P X p G0 H0 σ G H A Q q x => by
  obtain ⟨G', A', hb⟩ := A.peek i
  refine h z c _ _ _ (wpM_nox p) G0 H0 σ G' H A' _ (fun b c1 G1 H1 s1 g1 j1 p1 => ?_) XOk.none
  obtain ⟨s2, g2⟩ := hb G1 H1 s1 g1
  exact q b c1 G H1 s2 g2 j1 p1
/-! ### sorted, min by a key -/
/-- the keys of the items -/
def keysM {κ : Type} (dec : D → Option κ) (j : Nat) (f : Env' → M D) (env : Env') : List D → Option (List κ)
  | [] => some []
  | d :: r => match f ((eraseM env).set j (.dat d)) with
    | .ret y => (dec y).bind fun a => (keysM dec j f env r).map (a :: ·)
    | _ => none
theorem keysM_at {κ : Type} {dec : D → Option κ} {j : Nat} {f : Env' → M D} {env : Env'} : ∀ {ds : List D} {ks : List κ}, keysM dec j f env ds = some ks → ks.length = ds.length ∧ ∀ (i : Nat) (d : D), ds[i]? = some d → ∃ y a, f ((eraseM env).set j (.dat d)) = .ret y ∧ dec y = some a ∧ ks[i]? = some a
  | [], ks, e => by cases e; exact ⟨rfl, fun i d h => by simp at h⟩
  | d :: r, ks, e => by
    unfold keysM at e
    split at e
    · rename_i y hy
      obtain ⟨a, ha, e⟩ := Option.bind_eq_some_iff.mp e
      obtain ⟨m, hm, rfl⟩ := Option.map_eq_some_iff.mp e
      obtain ⟨h1, h2⟩ := keysM_at hm
      refine ⟨by rw [List.length_cons, List.length_cons, h1], fun i d' h => ?_⟩
      cases i with
      | zero => cases h; exact ⟨y, a, hy, ha, rfl⟩
      | succ i => exact h2 i d' h
    · cases e
theorem ed_pu {te : TE} {f : Env' → M D} {env : Env'} {d : D} (h : SE T K XF te f) (e : f env = .ret d) : ED (W0 T) te env d := fun c G0 H0 σ G H A Q q =>
  h .pu c env (fun d' c' => d' = d ∧ c' = c) (fun _ _ _ => False) (by rw [e]; exact ⟨rfl, rfl⟩) G0 H0 σ G H A Q (fun v d' c2 G2 H2 s g j r pd => by
    obtain ⟨rfl, rfl⟩ := pd
    exact q v G2 H2 s g j r) XOk.none
def eSortK {κ : Type} (lt : κ → κ → Bool) (k0 : κ) (dec : D → Option κ) (j : Nat) (f g : Env' → M D) : Env' → M D := fun env => (f env).bind fun d => match d with
  | .lst ds => ofO (keysM dec j g env ds) fun ks => .ret (.lst (sortD lt (fun i => ks.getD i k0) ds))
  | _ => .fail
theorem se_sortK {κ : Type} {KO : KeyOrd K κ} {emb : κ → D} (KD : KeyD KO emb) {k0 : κ} {dec : D → Option κ} (hdec : ∀ d a, dec d = some a → d = emb a) {te tb : TE} {j : Nat} {f g : Env' → M D} (h : SE T K E te f) (hb : SE T K XF tb g) : SE T K E (tSortK K T KO j te tb) (eSortK KO.lt k0 dec j f g) := fun z c env P X p G0 H0 σ G H A Q q x =>
  h z c env _ X (wpM_bind.mp p) G0 H0 σ G H A _ (fun v d c1 G1 H1 s1 g1 j1 r1 p1 => by
    have A1 := A.step s1 g1 j1
    cases r1 with
    | @lst a xs ds ha rl =>
      have p1 : wpM z (ofO (keysM dec j g env ds) fun ks => .ret (.lst (sortD KO.lt (fun i => ks.getD i k0) ds))) c1 P X := p1
      cases e : keysM dec j g env ds with
      | none => rw [e] at p1; exact p1.elim
      | some ks =>
        rw [e] at p1
        obtain ⟨hl, hk⟩ := keysM_at e
        have hlen := rl.len
        refine ⟨_, rfl, (z.w T K).tabs j1, fun H2 e2 t2 => ⟨a, xs, fun i => ks.getD i k0, rfl, sqL_of (gok_extN g1 e2) ha, fun i y H' hy e' t' => ?_, fun H' p e' t' hp => ?_⟩⟩
        · obtain ⟨d, hd, rd⟩ := rl.getV hy
          obtain ⟨u, b, h1, h2, h3⟩ := hk i d hd
          have hkd : (fun i => ks.getD i k0) i = b := by show ks.getD i k0 = b; rw [List.getD_eq_getElem?_getD, h3]; rfl
          rw [hkd]
          rw [hdec u b h2] at h1
          exact key_turn KD A1 (e2.trans e') t' rd (ed_pu hb h1)
        · have e3 := e2.trans e'
          have g3 := gok_extN g1 e3
          have j3 := J_extN j1 e3 t'
          have s3 := s1.trans (stp_extN g1 e3)
          have rr : RpL G1 (sortedBy KO.lt (fun i => ks.getD i k0) xs) (sortD KO.lt (fun i => ks.getD i k0) ds) := by
            unfold sortedBy sortD
            rw [hlen]
            exact rp_pick rl fun i hi => List.mem_range.mp ((isort_perm _ _).mem_iff.mp hi)
          exact q _ _ c1 _ _ (s3.trans (stp_new g3 hp)) (gok_new g3 j3 hp (noTb_lst _)) (J_new j3 hp) (.lst upd_same (rr.mono (same_new (g3.none hp) _))) p1
    | _ => exact p1.elim) x
/-- the place of the first one with a least key -/
def minAt {κ : Type} (lt : κ → κ → Bool) : List κ → Nat
  | [] => 0
  | [_] => 0
  | a :: b :: r => match (b :: r)[minAt lt (b :: r)]? with
    | some m => if lt m a = true then minAt lt (b :: r) + 1 else 0
    | none => 0
theorem minAt_is {κ : Type} {lt : κ → κ → Bool} (O : SrtO.Swo lt) (k0 : κ) : ∀ {ks : List κ}, ks ≠ [] → minAt lt ks < ks.length ∧ IsMin lt (fun i => ks.getD i k0) ks.length (minAt lt ks)
  | [], h => absurd rfl h
  | [a], _ => ⟨Nat.zero_lt_one, fun j hj => by
    have e : j = 0 := by simp at hj; exact hj
    subst e
    exact ⟨O.refl _, fun z => absurd z (Nat.lt_irrefl _)⟩⟩
  | a :: b :: r, _ => by
    obtain ⟨h1, h2⟩ := minAt_is O k0 (ks := b :: r) (by simp)
    have e1 : (b :: r)[minAt lt (b :: r)]? = some (b :: r)[minAt lt (b :: r)] := List.getElem?_eq_getElem h1
    have e2 : (b :: r).getD (minAt lt (b :: r)) k0 = (b :: r)[minAt lt (b :: r)] := by rw [List.getD_eq_getElem?_getD, e1]; rfl
    unfold minAt
    rw [e1]
    show (if lt (b :: r)[minAt lt (b :: r)] a = true then minAt lt (b :: r) + 1 else 0) < _ ∧ IsMin lt _ _ (if lt (b :: r)[minAt lt (b :: r)] a = true then minAt lt (b :: r) + 1 else 0)
    by_cases c : lt (b :: r)[minAt lt (b :: r)] a = true
    · rw [if_pos c]
      refine ⟨by simp at h1 ⊢; omega, fun j hj => ?_⟩
      cases j with
      | zero =>
        show lt a ((b :: r).getD (minAt lt (b :: r)) k0) = false ∧ (0 < minAt lt (b :: r) + 1 → lt ((b :: r).getD (minAt lt (b :: r)) k0) a = true)
        rw [e2]
        exact ⟨O.asym _ _ c, fun _ => c⟩
      | succ j =>
        have q := h2 j (by simpa using hj)
        exact ⟨q.1, fun z => q.2 (Nat.lt_of_succ_lt_succ z)⟩
    · rw [if_neg c]
      have c' : lt (b :: r)[minAt lt (b :: r)] a = false := by simpa using c
      refine ⟨by simp, fun j hj => ?_⟩
      cases j with
      | zero => exact ⟨O.refl _, fun z => absurd z (Nat.lt_irrefl _)⟩
      | succ j =>
        have q := (h2 j (by simpa using hj)).1
        have q : lt ((b :: r).getD j k0) ((b :: r).getD (minAt lt (b :: r)) k0) = false := q
        rw [e2] at q
        exact ⟨O.tr _ _ _ c' q, fun z => absurd z (Nat.not_lt_zero _)⟩
def eMinK {κ : Type} (lt : κ → κ → Bool) (dec : D → Option κ) (j : Nat) (f g : Env' → M D) : Env' → M D := fun env => (f env).bind fun d => match d with
  | .lst ds => ofO (keysM dec j g env ds) fun ks => ifM (ks ≠ []) (ofO ds[minAt lt ks]? .ret)
  | _ => .fail
theorem se_minK {κ : Type} [DecidableEq κ] {KO : KeyOrd K κ} {emb : κ → D} (KD : KeyD KO emb) (O : SrtO.Swo KO.lt) (k0 : κ) {dec : D → Option κ} (hdec : ∀ d a, dec d = some a → d = emb a) {te tb : TE} {j : Nat} {f g : Env' → M D} (h : SE T K E te f) (hb : SE T K XF tb g) : SE T K E (tMinK K T KO j te tb) (eMinK KO.lt dec j f g) := fun z c env P X p G0 H0 σ G H A Q q x =>
  h z c env _ X (wpM_bind.mp p) G0 H0 σ G H A _ (fun v d c1 G1 H1 s1 g1 j1 r1 p1 => by
    have A1 := A.step s1 g1 j1
    cases r1 with
    | @lst a xs ds ha rl =>
      have p1 : wpM z (ofO (keysM dec j g env ds) fun ks => ifM (ks ≠ []) (ofO ds[minAt KO.lt ks]? .ret)) c1 P X := p1
      cases e : keysM dec j g env ds with
      | none => rw [e] at p1; exact p1.elim
      | some ks =>
        rw [e] at p1
        have p1 : wpM z (ifM (ks ≠ []) (ofO ds[minAt KO.lt ks]? .ret)) c1 P X := p1
        by_cases hne : ks ≠ []
        · rw [ifM_pos hne] at p1
          obtain ⟨hl, hk⟩ := keysM_at e
          have hlen := rl.len
          obtain ⟨i0l, hm⟩ := minAt_is O k0 (ks := ks) hne
          rw [hl] at i0l hm
          have hi : ds[minAt KO.lt ks]? = some ds[minAt KO.lt ks] := List.getElem?_eq_getElem i0l
          rw [hi] at p1
          refine ⟨_, rfl, (z.w T K).tabs j1, fun H2 e2 t2 => ⟨a, xs, fun i => ks.getD i k0, rfl, sqL_of (gok_extN g1 e2) ha, fun i y H' hy e' t' => ?_, ?_, fun i y H' hy hm' e' t' => ?_⟩⟩
          · obtain ⟨d, hd, rd⟩ := rl.getV hy
            obtain ⟨u, b, h1, h2, h3⟩ := hk i d hd
            have hkd : (fun i => ks.getD i k0) i = b := by show ks.getD i k0 = b; rw [List.getD_eq_getElem?_getD, h3]; rfl
            rw [hkd]
            rw [hdec u b h2] at h1
            exact key_turn KD A1 (e2.trans e') t' rd (ed_pu hb h1)
          · rw [hlen]
            exact Nat.lt_of_le_of_lt (Nat.zero_le _) i0l
          · rw [hlen] at hm'
            have hil : i < ds.length := by rw [← hlen]; exact (List.getElem?_eq_some_iff.mp hy).1
            have e0 : i = minAt KO.lt ks := by
              rcases Nat.lt_trichotomy i (minAt KO.lt ks) with z | z | z
              · have z1 := (hm i hil).2 z
                rw [(hm' _ i0l).1] at z1
                cases z1
              · exact z
              · have z1 := (hm' _ i0l).2 z
                rw [(hm i hil).1] at z1
                cases z1
            subst e0
            obtain ⟨d, hd, rd⟩ := rl.getV hy
            rw [hi] at hd
            cases hd
            have e3 := e2.trans e'
            exact q y _ c1 G1 H' (s1.trans (stp_extN g1 e3)) (gok_extN g1 e3) (J_extN j1 e3 t') rd p1
        · unfold ifM at p1; rw [if_neg hne] at p1; exact p1.elim
    | _ => exact p1.elim) x
def asI? : D → Option Int
  | .int i => some i
  | _ => none
def asT? : D → Option (List Int)
  | .tup ds => asInts ds
  | _ => none
def asP? : D → Option (Int × List Int)
  | .tup [.int i, .tup ds] => (asInts ds).map (i, ·)
  | _ => none
theorem asI_eq : ∀ d a, asI? d = some a → d = .int a := fun d a h => by cases d <;> cases h <;> rfl
theorem asT_eq : ∀ d a, asT? d = some a → d = dI a := fun d a h => by
  cases d with
  | tup ds => rw [asInts_eq (show asInts ds = some a from h)]
  | _ => cases h
theorem asP_eq : ∀ d a, asP? d = some a → d = .tup [.int a.1, dI a.2] := fun d a h => by
  unfold asP? at h
  split at h
  · obtain ⟨m, h1, rfl⟩ := Option.map_eq_some_iff.mp h
    rw [asInts_eq h1]
  · cases h
/-- x, y = a fresh list that will change, e -/
def sParN (i j : Nat) (f : Env' → M (List D)) (g : Env' → M D) : Env' → M Out := fun env => (f env).bind fun ds => (g env).bind fun d => if i < env.length then .ret (.nx ((env.set i (.mu ds)).set j (.dat d))) else .fail
theorem ss_parN {te ue : TE} {i j : Nat} {f : Env' → M (List D)} {g : Env' → M D} (ne : i ≠ j) (hf : SN T K E te f) (hg : SE T K E ue g) : SS T K E (tPar i j (tCons te (tCons ue tNil))) (sParN i j f g) := fun z c env P X p G0 H0 σ G H A En F =>
  hf z c env _ X (wpM_bind.mp p) G0 H0 σ G H A _ (fun p xs ds c1 G1 H1 s1 g1 j1 hp gp nf m rl p1 =>
    hg z c1 env _ X (wpM_bind.mp p1) G0 H0 σ G1 H1 (A.step s1 g1 j1) _ (fun v d c2 G2 H2 s2 g2 j2 r2 p2 => by
      by_cases hi : i < env.length
      · rw [if_pos hi] at p2
        have hp2 := s2.hh p _ hp m (noTb_lst _)
        have gp2 := s2.gone gp hp (noTb_lst _)
        have A2 := A.setMN i hi (s1.trans s2) g2 j2 hp2 gp2 nf m (rl.mono s2.gg)
        exact ⟨_, _, rfl, F.nx _ _ _ _ _ (A2.setD j r2) p2⟩
      · rw [if_neg hi] at p2; exact p2.elim) (F.xok (A.st.trans s1))) (F.xok A.st)
/-- {} as data -/
def eDic0 : Env' → M D := fun _ => .ret (.dic [])
theorem se_dic0 : SE T K E (tFrz tDNewK) eDic0 := fun z c env P X p G0 H0 σ G H A Q q x => fun a ha => by
  refine ⟨a, .dK [], rfl, upd_same, trivial, fun od => ?_⟩
  rw [upd_upd]
  exact q (.ref a) _ c _ _ (stp_new A.gok ha) (gok_new A.gok A.j ha (noTb_frz _ _)) (J_new A.j ha) (.dic upd_same .nil) p
/-! ### the forms that are printed -/
def iRng1 (g : Env' → M (List D)) : Env' → M (List D) := fun env => (g env).bind fun ds => match ds with | [.int b] => rngM 0 b | _ => .fail
def iRng2 (g : Env' → M (List D)) : Env' → M (List D) := fun env => (g env).bind fun ds => match ds with | [.int a, .int b] => rngM a b | _ => .fail
def iEnum (g : Env' → M (List D)) : Env' → M (List D) := fun env => (g env).bind enumM
def iZip (g : Env' → M (List D)) : Env' → M (List D) := fun env => (g env).bind zipM
theorem kss_app {te : TE} {i : Nat} {f : Env' → M D} (hf : SE T K E te f) : SS T K E (tDrop (tBM K "list" rAppend (tVar i) (tCons te tNil))) (sApp i f) := ss_app hf
theorem kpe_fld {X : Cx} (K : PySem.W.Frag) {e : Expr} {te : TE} {pos : Pos} {n : Str} (he : PE X e te) (hb : attributeBase e n X.env (eval e X.env) = eval e X.env := by rfl) (h : X.K = K := by rfl) : PE X (.Attribute e n pos) (tFld K n te) := by subst h; exact pe_fld he hb
/-! ### the law -/
/-- behind the beginning of the draws the law gives True, whatever is drawn -/
theorem law_run {N : List Str} {u : TS} {g : Env' → M Out} {vs : List V} {H : Hp} {Q : VK} {i : Nat} {E' : XK} (hN : 1 ≤ N.length) (hs : SS T K E u g)
    (hg : ∀ (sa : Addr) (ns : List Int) (Pm : Prop) (S lw lc : Addr) (cells : List Int), ns.length ≤ 63 → wpM (.dr sa ns Pm S lw lc cells) (g ((env0 [.raw (.ref sa)] (N.length - 1)).set i (.dat (.raw (.ref S))))) 0 (fun o _ => o = .rt (.bl true)) fun _ _ _ => False)
    (h : SpLaw T K vs H Q E) : tSeq (tAsg (tCall (SpBegunX T K) [] E' (tCons (tVar 0) tNil)) (gName i)) u { nx := fun _ H' => Q .non H', rt := Q } (L2.start N vs) H := by
  obtain ⟨sa, ns, rfl, tb, hsq, hns, hQ⟩ := h
  have j0 := ws_start (c := 0) tb hsq
  have g0 : GOk (WS T K sa ns (Rd H sa (.lst (ns.map V.int)))) (fun _ => none) H := fun a o h => by cases h
  have A := at_start (c := 0) (N := N) (ds := [.raw (.ref sa)]) g0 j0 (.cons (.raw (.ref sa)) .nil) hN
  refine seq_asg ⟨.ref sa, rfl, ?_⟩
  refine ⟨sa, ns, _, by omega, rfl, _, 0, g0, j0, fun S lw lc ws cells G2 H2 s2 g2 j2 d hcells n1 n2 n3 => ?_⟩
  have A2 := At.drawn A (fun i s h => env0_mu h) s2 g2 j2 d n1 n2 n3
  have A3 := A2.setD i (.raw (.ref S))
  exact hs (.dr sa ns _ S lw lc cells) 0 _ _ _ (hg sa ns _ S lw lc cells hns) _ _ _ _ _ A3 _ ⟨fun _ e2 _ _ _ _ z => (by
    have z : Out.nx e2 = .rt (.bl true) := z
    cases z), fun v d c2 G3 H3 s g j r e => (by
    have e : Out.rt d = .rt (.bl true) := e
    cases e; cases r; exact hQ H3), fun _ e2 _ _ _ _ z => (by
    have z : Out.bk e2 = .rt (.bl true) := z
    cases z), fun _ e2 _ _ _ _ z => (by
    have z : Out.ct e2 = .rt (.bl true) := z
    cases z), fun _ _ _ _ _ _ _ _ _ _ z => z.elim⟩
end
end Fx

set_option Elab.async false
set_option linter.all false
set_option maxRecDepth 100000
set_option maxHeartbeats 4000000
/-! Reckoning with the functions: what simp unfolds. -/
namespace Fx
open PySem PySem.Spec PyProof.Rows L2 LamX C8
namespace M
@[simp] theorem b_ret {α β : Type} {a : α} {f : α → M β} : (M.ret a).bind f = f a := rfl
@[simp] theorem b_exc {α β : Type} {C : Addr} {fs : List (Str × D)} {f : α → M β} : (M.exc C fs).bind f = .exc C fs := rfl
@[simp] theorem b_fail {α β : Type} {f : α → M β} : (M.fail).bind f = .fail := rfl
@[simp] theorem b_bind {α β γ : Type} {m : M α} {f : α → M β} {g : β → M γ} : (m.bind f).bind g = m.bind fun a => (f a).bind g := bind_bind
@[simp] theorem n_ret {α : Type} {a : α} : (M.ret a).nox = .ret a := rfl
@[simp] theorem c_ret {α : Type} {a : α} {L : List Addr} : (M.ret a).cau L = .ret .non := rfl
end M
def eVarS : Option Slot → M D
  | some (.dat d) => .ret d
  | _ => .fail
@[simp] theorem eVar_x {i : Nat} {env : Env'} : eVar i env = eVarS env[i]? := by
  unfold eVar eVarS
  cases env[i]? with
  | none => rfl
  | some s => cases s <;> rfl
@[simp] theorem eVarS_x {d : D} : eVarS (some (.dat d)) = .ret d := rfl
section
variable {env : Env'}
@[simp] theorem eC_x {d : D} : eC d env = .ret d := rfl
@[simp] theorem aNil_x : aNil env = .ret [] := rfl
@[simp] theorem aCons_x {f : Env' → M D} {g : Env' → M (List D)} : aCons f g env = (f env).bind fun d => (g env).bind fun ds => .ret (d :: ds) := rfl
def starM (g : M (List D)) : D → M (List D)
  | .tup es => g.bind fun ds => .ret (es ++ ds)
  | .lst es => g.bind fun ds => .ret (es ++ ds)
  | _ => .fail
@[simp] theorem aStar_x {f : Env' → M D} {g : Env' → M (List D)} : aStar f g env = (f env).bind (starM (g env)) := by
  unfold aStar starM; rfl
@[simp] theorem starM_t {g : M (List D)} {es : List D} : starM g (.tup es) = g.bind fun ds => .ret (es ++ ds) := rfl
@[simp] theorem starM_l {g : M (List D)} {es : List D} : starM g (.lst es) = g.bind fun ds => .ret (es ++ ds) := rfl
@[simp] theorem szM_x {α : Type} {n : Nat} {m : M α} : szM n m = if n ≤ 100000 then m else .fail := rfl
@[simp] theorem ifM_x {α : Type} {p : Prop} [Decidable p] {m : M α} : ifM p m = if p then m else .fail := rfl
@[simp] theorem ofO_s {α β : Type} {a : α} {f : α → M β} : ofO (some a) f = f a := rfl
@[simp] theorem ofO_n {α β : Type} {f : α → M β} : ofO none f = .fail := rfl
@[simp] theorem eTup_x {g : Env' → M (List D)} : eTup g env = (g env).bind fun ds => szM ds.length (.ret (.tup ds)) := rfl
@[simp] theorem frzM_x {g : Env' → M (List D)} : frzM g env = (g env).bind fun ds => .ret (.lst ds) := rfl
@[simp] theorem nLst_x {g : Env' → M (List D)} : nLst g env = (g env).bind fun ds => szM ds.length (.ret ds) := rfl
@[simp] theorem eOp_x {o : D → D → M D} {f g : Env' → M D} : eOp o f g env = (f env).bind fun a => (g env).bind fun b => o a b := rfl
@[simp] theorem eUn_x {o : D → M D} {f : Env' → M D} : eUn o f env = (f env).bind o := rfl
@[simp] theorem eB_x {o : List D → M D} {g : Env' → M (List D)} : eB o g env = (g env).bind o := rfl
@[simp] theorem asB_x {b : Bool} : asB (.bl b) = .ret b := rfl
@[simp] theorem bV_x {f : Env' → M D} : bV f env = (f env).bind asB := rfl
@[simp] theorem bAnd_x {f g : Env' → M Bool} : bAnd f g env = (f env).bind fun b => if b then g env else .ret false := rfl
@[simp] theorem bOr_x {f g : Env' → M Bool} : bOr f g env = (f env).bind fun b => if b then .ret true else g env := rfl
@[simp] theorem bNot_x {f : Env' → M Bool} : bNot f env = (f env).bind fun b => .ret (!b) := rfl
@[simp] theorem bYes_x : bYes env = .ret true := rfl
@[simp] theorem eAnd_x {f g : Env' → M D} : eAnd f g env = (f env).bind fun d => (asB d).bind fun b => if b then g env else .ret (.bl false) := rfl
@[simp] theorem eOr_x {f g : Env' → M D} : eOr f g env = (f env).bind fun d => (asB d).bind fun b => if b then .ret (.bl true) else g env := rfl
@[simp] theorem eNot_x {f : Env' → M D} : eNot f env = (f env).bind fun d => (asB d).bind fun b => .ret (.bl (!b)) := rfl
@[simp] theorem eIf_x {t : Env' → M Bool} {f g : Env' → M D} : eIf t f g env = (t env).bind fun b => if b then f env else g env := rfl
@[simp] theorem eChain_x {o o' : D → D → M D} {f g h : Env' → M D} : eChain o o' f g h env = (f env).bind fun a => (g env).bind fun b => (o a b).bind fun d => (asB d).bind fun k => if k then (h env).bind fun e => o' b e else .ret (.bl false) := rfl
@[simp] theorem oNone_x : oNone env = .ret none := rfl
def someM : D → M (Option Int)
  | .int i => .ret (some i)
  | _ => .fail
@[simp] theorem oSome_x {f : Env' → M D} : oSome f env = (f env).bind someM := rfl
@[simp] theorem someM_x {i : Int} : someM (.int i) = .ret (some i) := rfl
@[simp] theorem eSl_x {f : Env' → M D} {l h : Env' → M (Option Int)} : eSl f l h env = (f env).bind fun d => (l env).bind fun lo => (h env).bind fun hi => slM d lo hi := rfl
@[simp] theorem slM_l {ds : List D} {lo hi : Option Int} : slM (.lst ds) lo hi = .ret (.lst (cutD ds lo hi)) := rfl
@[simp] theorem slM_t {ds : List D} {lo hi : Option Int} : slM (.tup ds) lo hi = .ret (.tup (cutD ds lo hi)) := rfl
@[simp] theorem iUM_x {f : Env' → M D} : iUM f env = (f env).bind itemsM := rfl
@[simp] theorem itemsM_l {ds : List D} : itemsM (.lst ds) = .ret ds := rfl
@[simp] theorem itemsM_t {ds : List D} : itemsM (.tup ds) = .ret ds := rfl
@[simp] theorem rngM_x {a b : Int} : rngM a b = if (smI a && smI b) = true then .ret ((rgD a b).map .int) else .fail := rfl
@[simp] theorem smI_0 : smI 0 = true := rfl
@[simp] theorem smI_1 : smI 1 = true := rfl
@[simp] theorem tinyI_0 : tinyI 0 = true := rfl
@[simp] theorem rgM_x {a b : Int} {f : List Int → D} : rgM a b f = if (tinyI a && tinyI b) = true then .ret (f (rgD a b)) else .fail := rfl
def rg1V (k : List Int → D) : D → M D
  | .int b => rgM 0 b k
  | _ => .fail
def rg2V (k : List Int → D) : D → D → M D
  | .int a, .int b => rgM a b k
  | _, _ => .fail
@[simp] theorem eRg1_x {k : List Int → D} {f : Env' → M D} : eRg1 k f env = (f env).bind (rg1V k) := rfl
@[simp] theorem eRg2_x {k : List Int → D} {f g : Env' → M D} : eRg2 k f g env = (f env).bind fun d => (g env).bind (rg2V k d) := rfl
@[simp] theorem rg1V_x {k : List Int → D} {b : Int} : rg1V k (.int b) = rgM 0 b k := rfl
@[simp] theorem rg2V_x {k : List Int → D} {a b : Int} : rg2V k (.int a) (.int b) = rgM a b k := rfl
def rng1M : List D → M (List D)
  | [.int b] => rngM 0 b
  | _ => .fail
def rng2M : List D → M (List D)
  | [.int a, .int b] => rngM a b
  | _ => .fail
@[simp] theorem iRng1_x {g : Env' → M (List D)} : iRng1 g env = (g env).bind rng1M := rfl
@[simp] theorem iRng2_x {g : Env' → M (List D)} : iRng2 g env = (g env).bind rng2M := rfl
@[simp] theorem rng1M_x {b : Int} : rng1M [.int b] = rngM 0 b := rfl
@[simp] theorem rng2M_x {a b : Int} : rng2M [.int a, .int b] = rngM a b := rfl
@[simp] theorem iEnum_x {g : Env' → M (List D)} : iEnum g env = (g env).bind enumM := rfl
@[simp] theorem iZip_x {g : Env' → M (List D)} : iZip g env = (g env).bind zipM := rfl
@[simp] theorem enumM_l {ds : List D} : enumM [.lst ds] = .ret (ds.zipIdx.map fun p => .tup [.int (p.2 : Nat), p.1]) := rfl
@[simp] theorem enumM_t {ds : List D} : enumM [.tup ds] = .ret (ds.zipIdx.map fun p => .tup [.int (p.2 : Nat), p.1]) := rfl
@[simp] theorem zipM_l {ds es : List D} : zipM [.lst ds, .lst es] = .ret (List.zipWith (fun x y => .tup [x, y]) ds es) := rfl
@[simp] theorem zipM_t {ds es : List D} : zipM [.tup ds, .tup es] = .ret (List.zipWith (fun x y => .tup [x, y]) ds es) := rfl
@[simp] theorem nLc_x {i : Env' → M (List D)} {tg : D → Env' → Option Env'} {t : Env' → M Bool} {f : Env' → M D} {vs : List Nat} : nLc i tg t f vs env = (i env).bind fun l => szM l.length (lcM tg t f (wipeE env vs) l) := rfl
@[simp] theorem sNx_x : sNx env = .ret (.nx env) := rfl
@[simp] theorem sSeq_x {g h : Env' → M Out} : sSeq g h env = (g env).bind (seqO h) := rfl
@[simp] theorem seqO_n {h : Env' → M Out} : seqO h (.nx env) = h env := rfl
@[simp] theorem seqO_r {h : Env' → M Out} {d : D} : seqO h (.rt d) = .ret (.rt d) := rfl
@[simp] theorem sIf_x {t : Env' → M Bool} {g h : Env' → M Out} : sIf t g h env = (t env).bind fun b => if b then g env else h env := rfl
@[simp] theorem sRet_x {f : Env' → M D} : sRet f env = (f env).bind fun d => .ret (.rt d) := rfl
@[simp] theorem sRetN_x : sRetN env = .ret (.rt .non) := rfl
@[simp] theorem sDrop_x {f : Env' → M D} : sDrop f env = (f env).bind fun _ => .ret (.nx env) := rfl
@[simp] theorem sSet_x {i : Nat} {f : Env' → M D} : sSet i f env = (f env).bind fun d => .ret (.nx (env.set i (.dat d))) := rfl
@[simp] theorem sSetN_x {i : Nat} {f : Env' → M (List D)} : sSetN i f env = (f env).bind fun ds => if i < env.length then .ret (.nx (env.set i (.mu ds))) else .fail := rfl
def par2M (i j : Nat) (env : Env') : List D → M Out
  | [a, b] => .ret (.nx ((env.set i (.dat a)).set j (.dat b)))
  | _ => .fail
def par3M (i j m : Nat) (env : Env') : List D → M Out
  | [a, b, d] => .ret (.nx (((env.set i (.dat a)).set j (.dat b)).set m (.dat d)))
  | _ => .fail
@[simp] theorem sPar_x {i j : Nat} {g : Env' → M (List D)} : sPar i j g env = (g env).bind (par2M i j env) := rfl
@[simp] theorem par2M_x {i j : Nat} {a b : D} : par2M i j env [a, b] = .ret (.nx ((env.set i (.dat a)).set j (.dat b))) := rfl
@[simp] theorem sPar3_x {i j m : Nat} {g : Env' → M (List D)} : sPar3 i j m g env = (g env).bind (par3M i j m env) := rfl
@[simp] theorem par3M_x {i j m : Nat} {a b d : D} : par3M i j m env [a, b, d] = .ret (.nx (((env.set i (.dat a)).set j (.dat b)).set m (.dat d))) := rfl
@[simp] theorem sParN_x {i j : Nat} {f : Env' → M (List D)} {g : Env' → M D} : sParN i j f g env = (f env).bind fun ds => (g env).bind fun d => if i < env.length then .ret (.nx ((env.set i (.mu ds)).set j (.dat d))) else .fail := rfl
@[simp] theorem sFor_x {i : Env' → M (List D)} {tg : D → Env' → Option Env'} {b : Env' → M Out} : sFor i tg b env = (i env).bind fun l => forM tg b l env := rfl
@[simp] theorem sWh_x {n : Nat} {t : Env' → M Bool} {g : Env' → M Out} : sWh n t g env = whM t g n env := rfl
@[simp] theorem sRz_x {C : Addr} : sRz C env = .exc C [] := rfl
def rzFM (C : Addr) (n : Str) : List D → M Out
  | [d] => .exc C [(n, d)]
  | _ => .fail
@[simp] theorem sRzF_x {C : Addr} {n : Str} {g : Env' → M (List D)} : sRzF C n g env = (g env).bind (rzFM C n) := rfl
@[simp] theorem rzFM_x {C : Addr} {n : Str} {d : D} : rzFM C n [d] = .exc C [(n, d)] := rfl
@[simp] theorem sFrz_x {i : Nat} {g : Env' → M Out} : sFrz i g env = g (frzE i env) := rfl
def frzS (i : Nat) (env : Env') : Option Slot → Env'
  | some (.mu ds) => env.set i (.dat (.lst ds))
  | _ => env
@[simp] theorem frzE_x {i : Nat} : frzE i env = frzS i env env[i]? := by
  unfold frzE frzS
  cases env[i]? with
  | none => rfl
  | some s => cases s <;> rfl
@[simp] theorem frzS_m {i : Nat} {ds : List D} : frzS i env (some (.mu ds)) = env.set i (.dat (.lst ds)) := rfl
@[simp] theorem frzS_d {i : Nat} {d : D} : frzS i env (some (.dat d)) = env := rfl
@[simp] theorem frzS_e {i : Nat} : frzS i env (some .emp) = env := rfl
def appS (i : Nat) (f : M D) (env : Env') : Option Slot → M Out
  | some (.mu ds) => f.bind fun d => if ds.length < 100000 then .ret (.nx (env.set i (.mu (ds ++ [d])))) else .fail
  | _ => .fail
@[simp] theorem sApp_x {i : Nat} {f : Env' → M D} : sApp i f env = appS i (f env) env env[i]? := by
  unfold sApp appS
  cases env[i]? with
  | none => rfl
  | some s => cases s <;> rfl
@[simp] theorem appS_x {i : Nat} {f : M D} {ds : List D} : appS i f env (some (.mu ds)) = f.bind fun d => if ds.length < 100000 then .ret (.nx (env.set i (.mu (ds ++ [d])))) else .fail := rfl
def stV (i : Nat) (ds : List D) (d : D) (env : Env') : D → M Out
  | .int k => if 0 ≤ k ∧ k.toNat < ds.length then .ret (.nx (env.set i (.mu (ds.set k.toNat d)))) else .fail
  | _ => .fail
def stS (i : Nat) (fi fv : M D) (env : Env') : Option Slot → M Out
  | some (.mu ds) => fv.bind fun d => fi.bind (stV i ds d env)
  | _ => .fail
@[simp] theorem sStL_x {i : Nat} {fi fv : Env' → M D} : sStL i fi fv env = stS i (fi env) (fv env) env env[i]? := by
  unfold sStL stS
  cases env[i]? with
  | none => rfl
  | some s => cases s <;> rfl
@[simp] theorem stS_x {i : Nat} {fi fv : M D} {ds : List D} : stS i fi fv env (some (.mu ds)) = fv.bind fun d => fi.bind (stV i ds d env) := rfl
@[simp] theorem stV_x {i : Nat} {ds : List D} {d : D} {k : Int} : stV i ds d env (.int k) = if 0 ≤ k ∧ k.toNat < ds.length then .ret (.nx (env.set i (.mu (ds.set k.toNat d)))) else .fail := rfl
def augV (i : Nat) (a : Int) (env : Env') : D → M Out
  | .int b => .ret (.nx (env.set i (.dat (.int (a + b)))))
  | _ => .fail
def augS (i : Nat) (f : M D) (env : Env') : Option Slot → M Out
  | some (.dat (.int a)) => f.bind (augV i a env)
  | _ => .fail
@[simp] theorem sAug_x {i : Nat} {f : Env' → M D} : sAug i f env = augS i (f env) env env[i]? := by
  unfold sAug augS
  cases env[i]? with
  | none => rfl
  | some s => cases s with
    | dat d => cases d <;> rfl
    | _ => rfl
@[simp] theorem augS_x {i : Nat} {f : M D} {a : Int} : augS i f env (some (.dat (.int a))) = f.bind (augV i a env) := rfl
@[simp] theorem augV_x {i : Nat} {a b : Int} : augV i a env (.int b) = .ret (.nx (env.set i (.dat (.int (a + b))))) := rfl
@[simp] theorem eCall_x {f : List D → M D} {g : Env' → M (List D)} : eCall f g env = (g env).bind f := rfl
@[simp] theorem eCallR_x {n : Nat} {f : List D → M D} {g : Env' → M (List D)} : eCallR n f g env = (g env).bind fun ds => ifM (ds.length = n) (f ds.reverse) := rfl
@[simp] theorem drawF_x {S : Addr} {n : Int} : drawF [.raw (.ref S), .int n] = .draw S n fun x => .ret (.int x) := rfl
@[simp] theorem eCau_x {L : List Addr} {f : Env' → M D} : eCau L f env = (f env).cau L := rfl
@[simp] theorem ePeek_x {i : Nat} {f : Env' → M D} : ePeek i f env = (f (frzE i env)).nox.bind fun d => ifM (flatD d = true) (.ret d) := rfl
@[simp] theorem bPeek_x {i : Nat} {f : Env' → M Bool} : bPeek i f env = (f (frzE i env)).nox := rfl
@[simp] theorem flatD_i {i : Int} : flatD (.int i) = true := rfl
@[simp] theorem flatD_b {i : Bool} : flatD (.bl i) = true := rfl
@[simp] theorem eDic0_x : eDic0 env = .ret (.dic []) := rfl
end
@[simp] theorem fnOut_r {d : D} : fnOut (.rt d) = .ret d := rfl
@[simp] theorem fnOut_n {env : Env'} : fnOut (.nx env) = .ret .non := rfl
@[simp] theorem env0_x {ds : List D} {n : Nat} : env0 ds n = ds.map .dat ++ List.replicate n .emp := rfl
@[simp] theorem fnM_x {n N : Nat} {g : Env' → M Out} {ds : List D} : fnM n N g ds = if ds.length = n then (g (env0 ds (N - n))).bind fnOut else .fail := rfl
/-! ### operators -/
@[simp] theorem oAdd_i {a b : Int} : oAdd (.int a) (.int b) = .ret (.int (a + b)) := rfl
@[simp] theorem oAdd_s {a b : Str} : oAdd (.str a) (.str b) = ifM (a.length + b.length ≤ 100000) (.ret (.str (a ++ b))) := rfl
@[simp] theorem oAdd_l {a b : List D} : oAdd (.lst a) (.lst b) = ifM (a.length + b.length ≤ 100000) (.ret (.lst (a ++ b))) := rfl
@[simp] theorem oAdd_t {a b : List D} : oAdd (.tup a) (.tup b) = ifM (a.length + b.length ≤ 100000) (.ret (.tup (a ++ b))) := rfl
@[simp] theorem oII_x {g : Int → Int → M D} {a b : Int} : oII g (.int a) (.int b) = g a b := rfl
@[simp] theorem oMul_i {a b : Int} : oMul (.int a) (.int b) = ifM (pMul a b) (.ret (.int (a * b))) := rfl
@[simp] theorem oMul_l {a : List D} {b : Int} : oMul (.lst a) (.int b) = ifM (smI b = true ∧ a.length * b.toNat ≤ 100000) (.ret (.lst (List.replicate b.toNat a).flatten)) := rfl
@[simp] theorem oLt_i {a b : Int} : oLt (.int a) (.int b) = .ret (.bl (decide (a < b))) := rfl
@[simp] theorem oLt_t {a b : List D} : oLt (.tup a) (.tup b) = ofO (asInts a) fun x => ofO (asInts b) fun y => .ret (.bl (HT.lexLt x y)) := rfl
@[simp] theorem asInts_x {ns : List Int} : asInts (ns.map .int) = some ns := asInts_map ns
@[simp] theorem asBls_x {ns : List Bool} : asBls (ns.map .bl) = some ns := asBls_map ns
@[simp] theorem asInts_c {α : Type} {f : α → Int} {l : List α} : asInts (l.map (D.int ∘ f)) = some (l.map f) := by rw [← List.map_map]; exact asInts_map _
@[simp] theorem asBls_c {α : Type} {f : α → Bool} {l : List α} : asBls (l.map (D.bl ∘ f)) = some (l.map f) := by rw [← List.map_map]; exact asBls_map _
@[simp] theorem asInts_f {α : Type} {f : α → Int} {l : List α} : asInts (l.map fun x => D.int (f x)) = some (l.map f) := asInts_c
@[simp] theorem asBls_f {α : Type} {f : α → Bool} {l : List α} : asBls (l.map fun x => D.bl (f x)) = some (l.map f) := asBls_c
@[simp] theorem asInts_0 : asInts [] = some [] := rfl
@[simp] theorem asBls_0 : asBls [] = some [] := rfl
def eqS (m : M D) : Option Bool → M D
  | some r => .ret (.bl r)
  | none => m
def neS (m : M D) : Option Bool → M D
  | some r => .ret (.bl (!r))
  | none => m
@[simp] theorem eqS_s {m : M D} {r : Bool} : eqS m (some r) = .ret (.bl r) := rfl
@[simp] theorem eqS_n {m : M D} : eqS m none = m := rfl
@[simp] theorem neS_s {m : M D} {r : Bool} : neS m (some r) = .ret (.bl (!r)) := rfl
@[simp] theorem neS_n {m : M D} : neS m none = m := rfl
@[simp] theorem oEq_x {a b : D} : oEq a b = eqS (ifM (D.ok 64 a = true ∧ D.ok 64 b = true) (.ret (.bl (D.eqv a b)))) (strs? a b) := by
  unfold oEq
  cases strs? a b <;> rfl
@[simp] theorem oNe_x {a b : D} : oNe a b = neS (ifM (D.ok 64 a = true ∧ D.ok 64 b = true) (.ret (.bl (!D.eqv a b)))) (strs? a b) := by
  unfold oNe
  cases strs? a b <;> rfl
@[simp] theorem strs_s {a b : Str} : strs? (.str a) (.str b) = some (decide (a = b)) := rfl
@[simp] theorem strs_i {a : Int} {b : D} : strs? (.int a) b = none := by cases b <;> rfl
@[simp] theorem strs_b {a : Bool} {b : D} : strs? (.bl a) b = none := by cases b <;> rfl
@[simp] theorem strs_l {a : List D} {b : D} : strs? (.lst a) b = none := by cases b <;> rfl
@[simp] theorem strs_t {a : List D} {b : D} : strs? (.tup a) b = none := by cases b <;> rfl
@[simp] theorem strs_n {b : D} : strs? .non b = none := by cases b <;> rfl
@[simp] theorem strs_i2 {a : Int} {b : D} : strs? b (.int a) = none := by cases b <;> rfl
@[simp] theorem strs_b2 {a : Bool} {b : D} : strs? b (.bl a) = none := by cases b <;> rfl
@[simp] theorem strs_l2 {a : List D} {b : D} : strs? b (.lst a) = none := by cases b <;> rfl
@[simp] theorem strs_t2 {a : List D} {b : D} : strs? b (.tup a) = none := by cases b <;> rfl
@[simp] theorem strs_n2 {b : D} : strs? b .non = none := by cases b <;> rfl
@[simp] theorem okI {n : Nat} {g : Int} : D.ok n (.int g) = true := ok_int
@[simp] theorem okB {n : Nat} {g : Bool} : D.ok n (.bl g) = true := ok_bl
@[simp] theorem okN {n : Nat} : D.ok n .non = true := ok_non
@[simp] theorem okT_c {n : Nat} {ds : List D} : D.ok (n + 1) (.tup ds) = okL n ds := rfl
@[simp] theorem okL_c {n : Nat} {ds : List D} : D.ok (n + 1) (.lst ds) = okL n ds := rfl
@[simp] theorem okL_0 {n : Nat} : okL n [] = true := okL_nil
@[simp] theorem okL_1 {n : Nat} {d : D} {ds : List D} : okL n (d :: ds) = (D.ok n d && okL n ds) := by rw [okL]
@[simp] theorem okL_a {n : Nat} : ∀ {as bs : List D}, okL n (as ++ bs) = (okL n as && okL n bs)
  | [], bs => by simp
  | a :: as, bs => by rw [List.cons_append, okL_1, okL_1, okL_a, Bool.and_assoc]
@[simp] theorem okL_i {n : Nat} {ns : List Int} : okL n (ns.map .int) = true := okL_map (fun _ => ok_int) _
@[simp] theorem eqv_i {i j : Int} : D.eqv (.int i) (.int j) = decide (i = j) := eqv_int
@[simp] theorem eqv_t {a b : List D} : D.eqv (.tup a) (.tup b) = eqvL a b := eqv_tup
@[simp] theorem eqv_l {a b : List D} : D.eqv (.lst a) (.lst b) = eqvL a b := eqv_lst
@[simp] theorem eqvL_00 : eqvL [] [] = true := eqvL_nil
@[simp] theorem eqvL_11 {a b : D} {as bs : List D} : eqvL (a :: as) (b :: bs) = (D.eqv a b && eqvL as bs) := eqvL_cons
@[simp] theorem eqvL_01 {b : D} {bs : List D} : eqvL [] (b :: bs) = false := eqvL_nc
@[simp] theorem eqvL_10 {b : D} {bs : List D} : eqvL (b :: bs) [] = false := eqvL_cn
@[simp] theorem eqv_bb {i j : Bool} : D.eqv (.bl i) (.bl j) = decide (i = j) := by cases i <;> cases j <;> decide +kernel
@[simp] theorem eqvL_l0 {as : List D} : eqvL as [] = as.isEmpty := by cases as <;> simp
@[simp] theorem oIn_x {a b : D} : oIn a b = (inM a b).bind fun r => .ret (.bl r) := rfl
@[simp] theorem oNotIn_x {a b : D} : oNotIn a b = (inM a b).bind fun r => .ret (.bl (!r)) := rfl
@[simp] theorem inM_l {x : D} {ds : List D} : inM x (.lst ds) = ifM (D.ok 64 x = true ∧ D.ok 64 (.lst ds) = true) (.ret (ds.any fun y => D.eqv y x)) := rfl
@[simp] theorem inM_t {x : D} {ds : List D} : inM x (.tup ds) = ifM (D.ok 64 x = true ∧ D.ok 64 (.tup ds) = true) (.ret (ds.any fun y => D.eqv y x)) := rfl
@[simp] theorem inM_d {x : D} {kvs : List (Key × D)} : inM x (.dic kvs) = ofO (keyD? x) fun k => .ret (lkD kvs k).isSome := rfl
@[simp] theorem oIsN_x {a : D} : oIsN a .non = ifM (noRaw a = true) (.ret (.bl (isN a))) := rfl
@[simp] theorem oNotN_x {a : D} : oNotN a .non = ifM (noRaw a = true) (.ret (.bl (!isN a))) := rfl
@[simp] theorem oIsB_x {a b : Bool} : oIsB (.bl a) (.bl b) = .ret (.bl (decide (a = b))) := rfl
@[simp] theorem oNotB_x {a b : Bool} : oNotB (.bl a) (.bl b) = .ret (.bl (!decide (a = b))) := rfl
@[simp] theorem atM_x {ds : List D} {i : Int} : atM ds i = ofO (atI ds i) .ret := rfl
@[simp] theorem oIx_l {ds : List D} {i : Int} : oIx (.lst ds) (.int i) = atM ds i := rfl
@[simp] theorem oIx_t {ds : List D} {i : Int} : oIx (.tup ds) (.int i) = atM ds i := rfl
@[simp] theorem uNeg_x {i : Int} : uNeg (.int i) = .ret (.int (-i)) := rfl
@[simp] theorem atI_n {α : Type} {xs : List α} {i : Nat} : atI xs (i : Int) = xs[i]? := by
  unfold atI ixN
  rw [if_pos (by omega)]
  by_cases h : i < xs.length
  · rw [if_pos (by omega)]; rfl
  · rw [if_neg (by omega), List.getElem?_eq_none (by omega)]; rfl
@[simp] theorem atI_0 {α : Type} {xs : List α} : atI xs 0 = xs[0]? := atI_n (i := 0)
@[simp] theorem atI_1 {α : Type} {xs : List α} : atI xs 1 = xs[1]? := atI_n (i := 1)
@[simp] theorem atI_2 {α : Type} {xs : List α} : atI xs 2 = xs[2]? := atI_n (i := 2)
@[simp] theorem noRaw_t {ds : List D} : noRaw (.tup ds) = true := rfl
@[simp] theorem noRaw_l {ds : List D} : noRaw (.lst ds) = true := rfl
@[simp] theorem noRaw_n : noRaw .non = true := rfl
@[simp] theorem noRaw_i {i : Int} : noRaw (.int i) = true := rfl
@[simp] theorem isN_t {ds : List D} : isN (.tup ds) = false := rfl
@[simp] theorem isN_l {ds : List D} : isN (.lst ds) = false := rfl
@[simp] theorem isN_n : isN .non = true := rfl
@[simp] theorem isN_i {i : Int} : isN (.int i) = false := rfl
/-! ### errors -/
@[simp] theorem M.c_exc {α : Type} {C : Addr} {fs : List (Str × D)} {L : List Addr} : (M.exc C fs : M α).cau L = if C ∈ L then .ret (.exc C fs) else .fail := rfl
def fldM (L : List Addr) (n : Str) : D → M D
  | .exc C fs => if C ∈ L then ofO (fs.lookup n) .ret else .fail
  | _ => .fail
@[simp] theorem eFld_x {L : List Addr} {n : Str} {f : Env' → M D} {env : Env'} : eFld L n f env = (f env).bind (fldM L n) := rfl
@[simp] theorem fldM_x {L : List Addr} {n : Str} {C : Addr} {fs : List (Str × D)} : fldM L n (.exc C fs) = if C ∈ L then ofO (fs.lookup n) .ret else .fail := rfl
@[simp] theorem bIsi_e {L : List Addr} {C C2 : Addr} {fs : List (Str × D)} : bIsi L [.exc C fs, .raw (.ref C2)] = ifM (C = C2 ∧ C ∈ L) (.ret (.bl true)) := rfl
/-! ### built-ins -/
@[simp] theorem bLen_l {ds : List D} : bLen [.lst ds] = .ret (.int ds.length) := rfl
@[simp] theorem bLen_t {ds : List D} : bLen [.tup ds] = .ret (.int ds.length) := rfl
@[simp] theorem bLen_d {ds : List (Key × D)} : bLen [.dic ds] = .ret (.int ds.length) := rfl
@[simp] theorem bLen_r {a : Addr} : bLen [.raw (.ref a)] = .ask a fun n => .ret (.int n) := rfl
@[simp] theorem bBs_x {f : List Bool → Bool} {ds : List D} : bBs f [.lst ds] = ofO (asBls ds) fun bs => .ret (.bl (f bs)) := rfl
@[simp] theorem bMin_2 {a b : Int} : bMin [.int a, .int b] = .ret (.int (min a b)) := rfl
@[simp] theorem bMax_2 {a b : Int} : bMax [.int a, .int b] = .ret (.int (max a b)) := rfl
@[simp] theorem bMin_l {ds : List D} : bMin [.lst ds] = ofO (asInts ds) fun ns => ifM (ns ≠ []) (.ret (.int (minI ns))) := rfl
@[simp] theorem bMax_l {ds : List D} : bMax [.lst ds] = ofO (asInts ds) fun ns => ifM (ns ≠ []) (.ret (.int (maxI ns))) := rfl
@[simp] theorem bSum_l {ds : List D} : bSum [.lst ds] = ofO (asInts ds) fun ns => .ret (.int ns.sum) := rfl
@[simp] theorem bSorted_l {ds : List D} : bSorted [.lst ds] = ofO (asInts ds) fun ns => .ret (dLI (isI ns)) := rfl
@[simp] theorem bTuple_l {ds : List D} : bTuple [.lst ds] = .ret (.tup ds) := rfl
@[simp] theorem bTuple_t {ds : List D} : bTuple [.tup ds] = .ret (.tup ds) := rfl
@[simp] theorem nList_x {f : Env' → M D} {env : Env'} : nList f env = (f env).bind seqM := rfl
@[simp] theorem seqM_l {ds : List D} : seqM (.lst ds) = .ret ds := rfl
@[simp] theorem seqM_t {ds : List D} : seqM (.tup ds) = .ret ds := rfl
@[simp] theorem bInt_x {a : Int} : bInt [.int a] = .ret (.int a) := rfl
@[simp] theorem bAbs_x {a : Int} : bAbs [.int a] = .ret (.int (a.natAbs : Nat)) := rfl
@[simp] theorem bIsi_c {L : List Addr} {d : D} {C : String} : bIsi L [d, .raw (.ty C)] = ofO d.ty fun t => ifM (C ∈ clsL) (.ret (.bl (isTy t C))) := by cases d <;> rfl
@[simp] theorem ty_0 : D.ty .non = some "NoneType" := rfl
@[simp] theorem ty_1 {b : Bool} : D.ty (.bl b) = some "bool" := rfl
@[simp] theorem ty_2 {b : Int} : D.ty (.int b) = some "int" := rfl
@[simp] theorem ty_3 {b : Str} : D.ty (.str b) = some "str" := rfl
@[simp] theorem ty_4 {b : List D} : D.ty (.tup b) = some "tuple" := rfl
@[simp] theorem ty_5 {b : List D} : D.ty (.lst b) = some "list" := rfl
@[simp] theorem ty_6 {b : List (Key × D)} : D.ty (.dic b) = some "dict" := rfl
@[simp] theorem if_and {p : Prop} [Decidable p] {b : Bool} : (if p then M.ret (D.bl b) else M.ret (D.bl false)) = M.ret (D.bl (decide p && b)) := by
  by_cases h : p <;> simp [h]
@[simp] theorem if_or {p : Prop} [Decidable p] {b : Bool} : (if p then M.ret (D.bl true) else M.ret (D.bl b)) = M.ret (D.bl (decide p || b)) := by
  by_cases h : p <;> simp [h]
@[simp] theorem if_andB {p : Prop} [Decidable p] {b : Bool} : (if p then M.ret b else M.ret false) = M.ret (decide p && b) := by
  by_cases h : p <;> simp [h]
@[simp] theorem if_orB {p : Prop} [Decidable p] {b : Bool} : (if p then M.ret true else M.ret b) = M.ret (decide p || b) := by
  by_cases h : p <;> simp [h]
/-! ### repr -/
mutual
/-- no deeper than n, of small ints; how much there is -/
def D.sm : Nat → D → Bool
  | _, .non => true
  | _, .bl _ => true
  | _, .int i => Nat.ble i.natAbs 99999999999
  | _, .str s => PyData.canLay0 (.str s)
  | n + 1, .tup ds => smL n ds
  | n + 1, .lst ds => smL n ds
  | _, _ => false
def smL : Nat → List D → Bool
  | _, [] => true
  | n, d :: ds => D.sm n d && smL n ds
end
mutual
def D.wt : D → Nat
  | .int _ => 40
  | .str s => s.cps.size
  | .tup ds => wtL ds
  | .lst ds => wtL ds
  | _ => 0
def wtL : List D → Nat
  | [] => 0
  | d :: ds => D.wt d + 1 + wtL ds
end
mutual
theorem D.sm_ok : ∀ {n : Nat} {d : D}, D.sm n d = true → D.ok n d = true ∧ d.py.showable = true ∧ PyData.intsShort 13 d.py = true ∧ PyData.weight d.py ≤ d.wt
  | n, .non, _ => ⟨ok_non, rfl, rfl, Nat.zero_le _⟩
  | n, .bl _, _ => ⟨ok_bl, rfl, rfl, Nat.zero_le _⟩
  | n, .int i, h => by
    have h : i.natAbs ≤ 99999999999 := by
      rw [D.sm] at h
      exact Nat.le_of_ble_eq_true h
      all_goals simp
    have hl : i.natAbs.log2 < 37 := by
      by_cases hz : i.natAbs = 0
      · rw [hz]; decide
      · exact (Nat.log2_lt hz).mpr (by omega)
    refine ⟨ok_int, ?_, ?_, ?_⟩
    · rw [D.py, PyData.showable]; exact decide_eq_true (by omega)
    · rw [D.py, PyData.intsShort]; exact decide_eq_true (PyData.shown_int_le (by omega))
    · rw [D.py, PyData.weight, D.wt]
      split <;> omega
  | n, .str s, h => by
    have h : PyData.canLay0 (.str s) = true := by
      rw [D.sm] at h
      exact h
      all_goals simp
    refine ⟨?_, rfl, rfl, ?_⟩
    · cases n <;> (rw [D.ok]; exact h)
    · rw [D.py, PyData.weight, D.wt]; exact Nat.le_refl _
  | n + 1, .tup ds, h => by
    rw [D.sm] at h
    obtain ⟨h1, h2, h3, h4⟩ := smL_ok h
    refine ⟨?_, ?_, ?_, ?_⟩
    · exact h1
    · rw [D.py, PyData.showable]; exact h2
    · rw [D.py, PyData.intsShort]; exact h3
    · rw [D.py, PyData.weight, D.wt]; exact h4
  | n + 1, .lst ds, h => by
    rw [D.sm] at h
    obtain ⟨h1, h2, h3, h4⟩ := smL_ok h
    refine ⟨?_, ?_, ?_, ?_⟩
    · exact h1
    · rw [D.py, PyData.showable]; exact h2
    · rw [D.py, PyData.intsShort]; exact h3
    · rw [D.py, PyData.weight, D.wt]; exact h4
  | 0, .tup ds, h => by rw [D.sm] at h; cases h; all_goals simp
  | 0, .lst ds, h => by rw [D.sm] at h; cases h; all_goals simp
  | n, .dic ds, h => by rw [D.sm] at h; cases h; all_goals simp
  | n, .raw ds, h => by rw [D.sm] at h; cases h; all_goals simp
  | n, .exc _ _, h => by rw [D.sm] at h; cases h; all_goals simp
theorem smL_ok : ∀ {n : Nat} {ds : List D}, smL n ds = true → okL n ds = true ∧ PyData.showableAll (pyL ds) = true ∧ PyData.intsShortAll 13 (pyL ds) = true ∧ PyData.weightAll (pyL ds) ≤ wtL ds
  | n, [], _ => ⟨okL_nil, by rw [pyL]; rfl, by rw [pyL]; rfl, by rw [pyL, PyData.weightAll]; exact Nat.zero_le _⟩
  | n, d :: ds, h => by
    rw [smL, Bool.and_eq_true] at h
    obtain ⟨h1, h2, h3, h4⟩ := D.sm_ok h.1
    obtain ⟨g1, g2, g3, g4⟩ := smL_ok h.2
    refine ⟨okL_cons h1 g1, ?_, ?_, ?_⟩
    · rw [pyL, PyData.showableAll, h2, g2]; rfl
    · rw [pyL, PyData.intsShortAll, h3, g3]; rfl
    · rw [pyL, PyData.weightAll, wtL]; omega
end
def txt : D → Str
  | .non => "None"
  | .int i => toString i
  | d => d.py.shown
theorem ok_mono : ∀ {n m : Nat}, n ≤ m → (∀ {d : D}, D.ok n d = true → D.ok m d = true) ∧ ∀ {ds : List D}, okL n ds = true → okL m ds = true := by
  intro n
  induction n with
  | zero =>
    intro m _
    have h1 : ∀ {d : D}, D.ok 0 d = true → D.ok m d = true := fun {d} h => by
      cases d with
      | tup ds => rw [D.ok] at h; cases h
      | lst ds => rw [D.ok] at h; cases h
      | _ => cases m <;> exact h
    refine ⟨h1, fun {ds} => ?_⟩
    induction ds with
    | nil => intro _; exact okL_nil
    | cons d r ih => intro h; rw [okL, Bool.and_eq_true] at h; exact okL_cons (h1 h.1) (ih h.2)
  | succ n ih =>
    intro m hm
    obtain ⟨m, rfl⟩ : ∃ k, m = k + 1 := ⟨m - 1, by omega⟩
    have h1 : ∀ {d : D}, D.ok (n + 1) d = true → D.ok (m + 1) d = true := fun {d} h => by
      cases d with
      | tup ds => exact (ih (by omega : n ≤ m)).2 h
      | lst ds => exact (ih (by omega : n ≤ m)).2 h
      | _ => exact h
    refine ⟨h1, fun {ds} => ?_⟩
    induction ds with
    | nil => intro _; exact okL_nil
    | cons d r ih => intro h; rw [okL, Bool.and_eq_true] at h; exact okL_cons (h1 h.1) (ih h.2)
theorem bRepr_eq {n : Nat} {d : D} (hd : d = .non ∨ (∃ i, d = .int i) ∨ isSq d = true) (h : D.sm n d = true) (hn : n ≤ 64) (hw : d.wt ≤ 1000000) : bRepr [d] = .ret (.str (txt d)) := by
  obtain ⟨h1, h2, h3, h4⟩ := D.sm_ok h
  obtain ⟨l1, l2⟩ := lay_of_ok h1
  rcases hd with rfl | ⟨i, rfl⟩ | hd
  · rfl
  · show ifM _ _ = _
    rw [D.py, PyData.showable] at h2
    exact ifM_pos (of_decide_eq_true h2)
  · have hs : d.py.shown.length ≤ sizeLine := by
      refine PyData.shown_fits_of_layable0 (B := 13) (by decide) (by decide) ?_ h3
      unfold PyData.layable0
      rw [l1, decide_eq_true (by omega), decide_eq_true (by omega)]; rfl
    have hk := (ok_mono hn).1 h1
    cases d with
    | tup ds => exact ifM_pos ⟨rfl, hk, h2, hs⟩
    | lst ds => exact ifM_pos ⟨rfl, hk, h2, hs⟩
    | _ => cases hd
@[simp] theorem sm_i {n : Nat} {i : Int} : D.sm n (.int i) = Nat.ble i.natAbs 99999999999 := by cases n <;> rfl
@[simp] theorem sm_t {n : Nat} {ds : List D} : D.sm (n + 1) (.tup ds) = smL n ds := rfl
@[simp] theorem sm_l {n : Nat} {ds : List D} : D.sm (n + 1) (.lst ds) = smL n ds := rfl
@[simp] theorem sm_n {n : Nat} : D.sm n .non = true := by cases n <;> rfl
@[simp] theorem sm_b {n : Nat} {b : Bool} : D.sm n (.bl b) = true := by cases n <;> rfl
theorem smL_of {n : Nat} : ∀ {ds : List D}, (∀ d ∈ ds, D.sm n d = true) → smL n ds = true
  | [], _ => by rw [smL]
  | d :: ds, h => by rw [smL, h d List.mem_cons_self, smL_of fun e he => h e (List.mem_cons_of_mem _ he)]; rfl
theorem wtL_le {k : Nat} : ∀ {ds : List D}, (∀ d ∈ ds, d.wt ≤ k) → wtL ds ≤ ds.length * (k + 1)
  | [], _ => by rw [wtL]; exact Nat.zero_le _
  | d :: ds, h => by
    have h1 := h d List.mem_cons_self
    have h2 := wtL_le (ds := ds) fun e he => h e (List.mem_cons_of_mem _ he)
    rw [wtL, List.length_cons, Nat.succ_mul]
    omega
/-! ### draws -/
@[simp] theorem M.b_draw {α β : Type} {S : Addr} {n : Int} {k : Int → M α} {f : α → M β} : (M.draw S n k).bind f = .draw S n fun x => (k x).bind f := rfl
@[simp] theorem M.b_ask {α β : Type} {a : Addr} {k : Nat → M α} {f : α → M β} : (M.ask a k).bind f = .ask a fun x => (k x).bind f := rfl
@[simp] theorem M.n_draw {α : Type} {S : Addr} {n : Int} {k : Int → M α} : (M.draw S n k).nox = .draw S n fun x => (k x).nox := rfl
theorem cap_of {c : Nat} (h : c ≤ 1000000000) : c + 1 ≤ CAP := by unfold CAP; omega
theorem wp_draw {α : Type} {z : Zw} {S : Addr} {n : Int} {k : Int → M α} {c : Nat} {P : α → Nat → Prop} {X : PX} (hS : z.isS S) (h0 : 0 < n) (h1 : n ≤ 1000000) (hc : c ≤ 1000000000) (h : ∀ x, 0 ≤ x → x < n → wpM z (k x) (c + 1) P X) : wpM z (.draw S n k) c P X := ⟨hS, h0, h1, cap_of hc, h⟩
/-! ### comprehensions, loops -/
def loopO (k : Env' → M Out) : Out → M Out
  | .nx e => k e
  | .ct e => k e
  | .bk e => .ret (.nx e)
  | .rt d => .ret (.rt d)
@[simp] theorem loopO_n {k : Env' → M Out} {e : Env'} : loopO k (.nx e) = k e := rfl
@[simp] theorem loopO_c {k : Env' → M Out} {e : Env'} : loopO k (.ct e) = k e := rfl
@[simp] theorem loopO_b {k : Env' → M Out} {e : Env'} : loopO k (.bk e) = .ret (.nx e) := rfl
@[simp] theorem loopO_r {k : Env' → M Out} {d : D} : loopO k (.rt d) = .ret (.rt d) := rfl
@[simp] theorem forM_0 {tg : D → Env' → Option Env'} {g : Env' → M Out} {env : Env'} : forM tg g [] env = .ret (.nx env) := rfl
theorem forM_c {tg : D → Env' → Option Env'} {g : Env' → M Out} {d : D} {r : List D} {env e : Env'} (h : tg d env = some e) : forM tg g (d :: r) env = (g e).bind (loopO (forM tg g r)) := by
  rw [forM, h]
  have q : ∀ k : Env' → M Out, (fun o : Out => match o with
      | .nx e => k e
      | .ct e => k e
      | .bk e => .ret (.nx e)
      | .rt d => .ret (.rt d)) = loopO k := fun k => by
    funext o
    cases o <;> rfl
  exact congrArg (M.bind (g e)) (q _)
theorem whM_s {t : Env' → M Bool} {g : Env' → M Out} {n : Nat} {env : Env'} : whM t g (n + 1) env = (t env).bind fun b => if b then (g env).bind (loopO (whM t g n)) else .ret (.nx env) := by
  rw [whM]
  have q : ∀ k : Env' → M Out, (fun o : Out => match o with
      | .nx e => k e
      | .ct e => k e
      | .bk e => .ret (.nx e)
      | .rt d => .ret (.rt d)) = loopO k := fun k => by
    funext o
    cases o <;> rfl
  refine congrArg (M.bind (t env)) (funext fun b => ?_)
  cases b with
  | false => rfl
  | true => exact congrArg (M.bind (g env)) (q _)
theorem lcM_of {α : Type} {tg : D → Env' → Option Env'} {t : Env' → M Bool} {f : Env' → M D} {env : Env'} (emb : α → D) (p : α → Bool) (g : α → D) : ∀ {xs : List α}, (∀ x ∈ xs, ∃ e, tg (emb x) env = some e ∧ t e = .ret (p x) ∧ (p x = true → f e = .ret (g x))) → lcM tg t f env (xs.map emb) = .ret ((xs.filter p).map g)
  | [], _ => rfl
  | x :: r, h => by
    obtain ⟨e, h1, h2, h3⟩ := h x List.mem_cons_self
    have ih := lcM_of emb p g (xs := r) fun y hy => h y (List.mem_cons_of_mem _ hy)
    rw [List.map_cons, lcM, h1]
    show (t e).nox.bind _ = _
    rw [h2]
    show (if p x = true then _ else _) = _
    cases hp : p x with
    | true =>
      rw [if_pos rfl, h3 hp, ih, List.filter_cons_of_pos (by rw [hp])]; rfl
    | false =>
      rw [if_neg Bool.false_ne_true, ih, List.filter_cons_of_neg (by rw [hp]; exact Bool.false_ne_true)]
theorem lcM_map {α : Type} {tg : D → Env' → Option Env'} {t : Env' → M Bool} {f : Env' → M D} {env : Env'} (emb : α → D) (g : α → D) {xs : List α} (h : ∀ x ∈ xs, ∃ e, tg (emb x) env = some e ∧ t e = .ret true ∧ f e = .ret (g x)) : lcM tg t f env (xs.map emb) = .ret (xs.map g) := by
  rw [lcM_of emb (fun _ => true) g fun x hx => by
    obtain ⟨e, h1, h2, h3⟩ := h x hx
    exact ⟨e, h1, h2, fun _ => h3⟩]
  rw [List.filter_eq_self.mpr fun _ _ => rfl]
theorem lcM_id {tg : D → Env' → Option Env'} {t : Env' → M Bool} {f : Env' → M D} {env : Env'} (g : D → D) {xs : List D} (h : ∀ x ∈ xs, ∃ e, tg x env = some e ∧ t e = .ret true ∧ f e = .ret (g x)) : lcM tg t f env xs = .ret (xs.map g) := by
  have := lcM_map (tg := tg) (t := t) (f := f) (env := env) id g (xs := xs) h
  rwa [List.map_id] at this
/-- a comprehension whose test draws -/
theorem wp_lc_sub {α : Type} {z : Zw} {tg : D → Env' → Option Env'} {t : Env' → M Bool} {f : Env' → M D} {env : Env'} {X : PX} (emb : α → D) (g : α → D) (k B : Nat) : ∀ {xs : List α} {c : Nat} {P : List D → Nat → Prop},
    (∀ x ∈ xs, ∃ e, tg (emb x) env = some e ∧ f e = .ret (g x) ∧ ∀ c' (Pb : Bool → Nat → Prop), c' ≤ B → (∀ b c2, c' ≤ c2 → c2 ≤ c' + k → Pb b c2) → wpM z (t e).nox c' Pb X) → c + k * xs.length ≤ B →
    (∀ (ys : List α) c', ys.Sublist xs → c ≤ c' → c' ≤ c + k * xs.length → P (ys.map g) c') → wpM z (lcM tg t f env (xs.map emb)) c P X
  | [], c, P, _, _, h => h [] c .slnil (Nat.le_refl _) (by simp)
  | x :: r, c, P, hx, hB, h => by
    obtain ⟨e, h1, h2, h3⟩ := hx x List.mem_cons_self
    rw [List.length_cons, Nat.mul_succ] at hB
    rw [List.map_cons, lcM, h1]
    refine wpM_bind.mpr (h3 c _ (by omega) fun b c2 hc1 hc2 => ?_)
    have ih := fun P' (h' : ∀ (ys : List α) c', ys.Sublist r → c2 ≤ c' → c' ≤ c2 + k * r.length → P' (ys.map g) c') => wp_lc_sub (z := z) (tg := tg) (t := t) (f := f) (env := env) (X := X) emb g k B (xs := r) (c := c2) (P := P') (fun y hy => hx y (List.mem_cons_of_mem _ hy)) (by omega) h'
    have hk : k * (x :: r).length = k * r.length + k := by rw [List.length_cons, Nat.mul_succ]
    cases b with
    | false =>
      refine ih _ fun ys c' hs h1 h2 => h ys c' (hs.cons _) (by omega) (by omega)
    | true =>
      show wpM z ((f e).nox.bind _) c2 P X
      rw [h2]
      refine wpM_bind.mpr (wpM_bind.mpr (ih _ fun ys c' hs h1 h2 => ?_))
      exact h (x :: ys) c' (hs.cons₂ _) (by omega) (by omega)
end Fx

set_option Elab.async false
set_option linter.all false
set_option maxRecDepth 100000
set_option maxHeartbeats 4000000
/-! What the head tells of a class whose __init__ says super().__init__(a text): a Hook that reads its __init__ too. -/
namespace Fx
open PySem PySem.Spec PyProof.Rows L2 LamX He
/-- a def that closes over __class__ -/
abbrev FnS : Type := Option (Str × Str × Arguments × FuncBody × Scope × Addr × List Str × Value × Addr)
def fnS (K : PySem.W.Frag) (p : Str × Option Str) : FnS := match K.lookup (fAd K p) with
  | some ⟨_, _, .func fd, _⟩ => some (fd.name, fd.qualname, fd.params, fd.body, fd.scope, fd.globals, fd.closure.map (·.1), fd.defaults, fd.builtins)
  | _ => none
/-- class x; m: its __init__ as written -/
structure SupD where
  x : Str
  m : Stmt
def SupD.val (d : SupD) : FnS := some ("__init__", d.x ++ ".__init__", C8.fnArgs d.m, .stmts (C8.fnBody d.m), C8.fnScope d.m, mainGlobals, ["__class__"], .none, builtinsNs)
def asS (g : Addr → Option Obj) (n : Nat) : List Addr := asD g n ++ [cStatics]
abbrev AlS : Type := AlX × List FnS
def obsS (n : Nat) (fa : List Fa) (fn : List DefD) (ts : List Tab) (tf : List Defn) (ex : PySem.W.Frag → Bool) (ms : List SupD) (g : Addr → Option Obj) : AlS :=
  ((obsT fa fn ts (frT g (asS g n)), ex (frT g (asS g n)) && tabsB g tf (frT g (asS g n))), ms.map fun d => fnS (frT g (asS g n)) (d.x, some "__init__"))
def valS (fn : List DefD) (ts : List Tab) (ms : List SupD) (w : World) : AlS := (valX fn ts w, ms.map SupD.val)
structure SaysS (fa : List Fa) (fn : List DefD) (ts : List Tab) (tf : List Defn) (ex : PySem.W.Frag → Bool) (ms : List SupD) (w : World) (h : Heap) (K : PySem.W.Frag) : Prop where
  says : SaysX fa fn ts tf ex w h K
  sup : ∀ d ∈ ms, fnS K (d.x, some "__init__") = d.val
theorem saysS_of {n : Nat} {fa : List Fa} {fn : List DefD} {ts : List Tab} {tf : List Defn} {ex : PySem.W.Frag → Bool} {ms : List SupD} {w : World} {h : Heap} (e : obsS n fa fn ts tf ex ms h.get? = valS fn ts ms w) : SaysS fa fn ts tf ex ms w h (frT h.get? (asS h.get? n)) := by
  have e1 : obsT fa fn ts (frT h.get? (asS h.get? n)) = valT fn ts w := congrArg (fun z : AlS => z.1.1) e
  have e2 : (ex (frT h.get? (asS h.get? n)) && tabsB h.get? tf (frT h.get? (asS h.get? n))) = true := congrArg (fun z : AlS => z.1.2) e
  have e3 : (ms.map fun d => fnS (frT h.get? (asS h.get? n)) (d.x, some "__init__")) = ms.map SupD.val := congrArg (fun z : AlS => z.2) e
  obtain ⟨h1, h2⟩ := ba e2
  have key : ∀ p ∈ tf, PySem.W.codeHdIn (frT h.get? (asS h.get? n)) (cT (frT h.get? (asS h.get? n)) p).1 (cT (frT h.get? (asS h.get? n)) p).2 = true ∧ ∃ o, h.get? (cT (frT h.get? (asS h.get? n)) p).2 = some o ∧ emptyTab o = true := fun p hp => by
    obtain ⟨h3, h4⟩ := ba (List.all_eq_true.mp h2 p hp)
    refine ⟨h3, ?_⟩
    cases q : h.get? (cT (frT h.get? (asS h.get? n)) p).2 with
    | none => rw [q] at h4; cases h4
    | some o => rw [q] at h4; exact ⟨o, rfl, h4⟩
  refine ⟨⟨e1, h1, fun p hp => (key p hp).1, fun p hp => ?_, fun p hp => ?_⟩, fun d hd => ?_⟩
  · obtain ⟨_, o, q, z⟩ := key p hp
    exact frT_none q z
  · obtain ⟨_, o, q, z⟩ := key p hp
    rw [q, emptyTab_eq z]
  · obtain ⟨i, hi, rfl⟩ := List.mem_iff_getElem.mp hd
    have q := congrArg (fun l : List FnS => l[i]?) e3
    simp only [List.getElem?_map, List.getElem?_eq_getElem hi, Option.map_some, Option.some.injEq] at q
    exact q
def hookS (n : Nat) (fa : List Fa) (fn : List DefD) (ts : List Tab) (tf : List Defn) (ex : PySem.W.Frag → Bool) (ms : List SupD) : PySem.W.Hook where
  α := AlS
  obs := fun s => obsS n fa fn ts tf ex ms s.heap.get?
  val := fun w => valS fn ts ms w
  says := fun w h => ∃ K : PySem.W.Frag, K.In h ∧ SaysS fa fn ts tf ex ms w h K
  of := fun _ _ e => ⟨_, frT_in, saysS_of e⟩
  keeps := fun _ _ _ ⟨K, hK, c⟩ k => ⟨K, PySem.W.Frag.In.keeps hK k, ⟨⟨c.says.t, c.says.more, c.says.hd, c.says.out, fun p hp => k _ _ (c.says.empty p hp)⟩, c.sup⟩⟩
theorem obsS_eq {n : Nat} {fa : List Fa} {fn : List DefD} {ts : List Tab} {tf : List Defn} {ex : PySem.W.Frag → Bool} {ms : List SupD} {g : Addr → Option Obj} {s : Shared} (h : ∀ a, g a = s.heap.get? a) : obsS n fa fn ts tf ex ms g = (hookS n fa fn ts tf ex ms).obs s := by
  have e : g = s.heap.get? := funext h
  rw [e] <;> rfl
/-! ### an own class of errors with an own __init__ -/
def oexB (K : PySem.W.Frag) (C : Addr) : Bool := (match K.lookup C with
  | some ⟨.type "type", _, .cls cd, sl⟩ => (match cd.mro, sl.toList with
    | .ref C' :: bm, [_, _, _, _, some (.builtin n), _] => C' == C && n == "ValueError.__new__" && !cd.hasDel && cd.hasDict && PySem.HandSPX.refsVE bm
    | _, _ => false)
  | _ => false) &&
  (decide (PySem.W.findIn K (.ref C) "__setattr__" = some (some (.builtin "object.__setattr__"))) && (decide (PySem.W.subIn K (.ref C) (.type "BaseException") = some true) &&
  (decide (PySem.W.typeIn K (.ref C) = some (.type "type")) && PySem.W.keepIn K (.ref C))))
theorem oexB_ok {K : PySem.W.Frag} {C : Addr} (h : oexB K C = true) : OexC K C := by
  obtain ⟨q, h⟩ := ba h
  obtain ⟨h1, h⟩ := ba h
  obtain ⟨h2, h⟩ := ba h
  obtain ⟨h3, h4⟩ := ba h
  refine ⟨?_, of_decide_eq_true h1, of_decide_eq_true h2, of_decide_eq_true h3, h4⟩
  split at q
  · rename_i dd cd sl ho
    split at q
    · rename_i C' bm k0 k1 k2 k3 n k5 hm hs
      simp only [Bool.and_eq_true, beq_iff_eq, Bool.not_eq_true'] at q
      obtain ⟨⟨⟨⟨rfl, rfl⟩, hdel⟩, hdict⟩, ht⟩ := q
      obtain ⟨nm, bs, mro, ns, qn, hd, sn, sub, ab, col, del⟩ := cd
      dsimp only at hm hdel hdict
      subst hm hdel hdict
      have hsl : sl = #[k0, k1, k2, k3, some (.builtin "ValueError.__new__"), k5] := by
        obtain ⟨l⟩ := sl
        simp only at hs
        rw [hs]
      subst hsl
      exact ⟨nm, qn, ns, bs, bm, sn, sub, ab, col, dd, k0, k1, k2, k3, k5, ho, ht⟩
    · cases q
  · cases q
/-- what its __init__ closes over, where its code stands -/
def supCell (K : PySem.W.Frag) (fI : Addr) : Addr × Addr := match K.lookup fI with
  | some ⟨_, _, .func fd, _⟩ => (match fd.closure, fd.code with
    | (_, cc) :: _, .ref cda => (cc, cda)
    | _, _ => (0, 0))
  | _ => (0, 0)
def supB (K : PySem.W.Frag) (P : Program) (x f : Str) : Bool :=
  let C := ga K x
  let fI := ma K C "__init__"
  let cc := (supCell K fI).1
  let cda := (supCell K fI).2
  (match K.lookup fI with
  | some ⟨_, _, .func fd, _⟩ => decide (fd.code = .ref cda) && decide (fd.closure.map (·.2) = [cc])
  | _ => false) && (PySem.W.codeIn K (.ref cda) (x ++ ".__init__") && ((match K.lookup cda with
  | some ⟨_, _, .fields vs, _⟩ => (match (vs[2]? : Option Value) with
    | some (Value.str file _) => ((P.main.file : Str) == file)
    | _ => false)
  | _ => false) && ((match K.lookup cc with
  | some ⟨_, _, .cell (some (.ref C')), _⟩ => C' == C
  | _ => false) && (oexB K C && (decide (PySem.W.mroIn K C (.ref C) = some true) && (decide (PySem.W.nsIn K mainGlobals "super" = some none) && (decide (PySem.W.nsIn K cStatics "thirdparty.any" = some none) &&
  (decide (PySem.W.ks_superIn K C C "__init__" = some (some (.builtin "ValueError.__init__"))) && (decide (PySem.W.subIn K (.ref C) (.type "ValueError") = some true) && (decide (PySem.W.findIn K (.ref C) f = some none) &&
  (decide (PySem.W.findIn K (.ref C) "__init__" = some (some (.ref fI))) && (decide (PySem.W.typeIn K (.ref fI) = some (.type "function")) && xfB K C))))))))))))
structure SupOk (K : PySem.W.Frag) (P : Program) (x f : Str) (m : Stmt) (C : Addr) : Prop where
  sup : ∃ cc cda, SupIn K P x C (ma K C "__init__") cc cda m
  nof : PySem.W.findIn K (.ref C) f = some none
  ini : PySem.W.findIn K (.ref C) "__init__" = some (some (.ref (ma K C "__init__")))
  fty : PySem.W.typeIn K (.ref (ma K C "__init__")) = some (.type "function")
  xf : XfC K C
theorem clo_of {y : Str} {cc : Addr} : ∀ {l : List (Str × Addr)}, l.map (·.1) = [y] → l.map (·.2) = [cc] → l = [(y, cc)]
  | [(u, v)], h1, h2 => by
    have e1 : [u] = [y] := h1
    have e2 : [v] = [cc] := h2
    rw [(List.cons.inj e1).1, (List.cons.inj e2).1]
  | [], h, _ => by cases h
  | _ :: _ :: _, h, _ => by cases h
theorem supB_ok {K : PySem.W.Frag} {P : Program} {x f : Str} {m : Stmt} (h : supB K P x f = true) (hf : fnS K (x, some "__init__") = SupD.val ⟨x, m⟩) : SupOk K P x f m (ga K x) := by
  obtain ⟨a1, h⟩ := ba h
  obtain ⟨a2, h⟩ := ba h
  obtain ⟨a3, h⟩ := ba h
  obtain ⟨a4, h⟩ := ba h
  obtain ⟨a5, h⟩ := ba h
  obtain ⟨a6, h⟩ := ba h
  obtain ⟨a7, h⟩ := ba h
  obtain ⟨a8, h⟩ := ba h
  obtain ⟨a9, h⟩ := ba h
  obtain ⟨a10, h⟩ := ba h
  obtain ⟨a11, h⟩ := ba h
  obtain ⟨a12, h⟩ := ba h
  obtain ⟨a13, a14⟩ := ba h
  generalize hcc : (supCell K (ma K (ga K x) "__init__")).1 = cc at a1 a4
  generalize hcd : (supCell K (ma K (ga K x) "__init__")).2 = cda at a1 a2 a3
  refine ⟨⟨cc, cda, ?_, a2, ?_, ?_, oexB_ok a5, of_decide_eq_true a6, of_decide_eq_true a7, of_decide_eq_true a8, of_decide_eq_true a9, of_decide_eq_true a10⟩, of_decide_eq_true a11, of_decide_eq_true a12, of_decide_eq_true a13, xfB_ok a14⟩
  · unfold fnS at hf
    have ef : fAd K (x, some "__init__") = ma K (ga K x) "__init__" := rfl
    rw [ef] at hf
    cases q : K.lookup (ma K (ga K x) "__init__") with
    | none => rw [q] at a1; cases a1
    | some o =>
      obtain ⟨oc, od, dt, osl⟩ := o
      rw [q] at a1 hf
      cases dt with
      | func fd =>
        obtain ⟨n1, n2, n3, n4, n5, n6, n7, n8, n9, n10, n11, n12, n13, n14, n15⟩ := fd
        have e2 : (some (n1, n2, n3, n4, n5, n6, n7.map (·.1), n8, n15) : FnS) = SupD.val ⟨x, m⟩ := hf
        unfold SupD.val at e2
        simp only [Option.some.injEq, Prod.mk.injEq] at e2
        obtain ⟨h1, h2, h3, h4, h5, h6, h7, h8, h9⟩ := e2
        obtain ⟨b1, b2⟩ := ba (show (decide (n13 = .ref cda) && decide (n7.map (·.2) = [cc])) = true from a1)
        have b1 := of_decide_eq_true b1
        have b2 := of_decide_eq_true b2
        have h7' := clo_of h7 b2
        subst h1 h2 h3 h4 h5 h6 h7' h8 h9 b1
        exact ⟨oc, od, n9, n10, n11, n12, n14, osl, rfl⟩
      | _ => cases a1
  · cases q : K.lookup cda with
    | none => rw [q] at a3; cases a3
    | some o =>
      obtain ⟨oc, od, dt, osl⟩ := o
      rw [q] at a3
      cases dt with
      | fields vs =>
        have a3 : (match (vs[2]? : Option Value) with
          | some (Value.str file _) => ((P.main.file : Str) == file)
          | _ => false) = true := a3
        split at a3
        · rename_i file tf e
          exact ⟨oc, od, vs, osl, file, tf, rfl, e, a3⟩
        · cases a3
      | _ => cases a3
  · split at a4
    · rename_i oc od C' osl e
      exact ⟨oc, od, osl, by rw [e, beq_iff_eq.mp a4]⟩
    · cases a4
end Fx

set_option Elab.async false
set_option linter.all false
set_option maxRecDepth 100000
set_option maxHeartbeats 4000000
/-! Plain mathematics: fewest gaps that hit all lots. -/
namespace KH
open PySem L2 Fx
/-- the places of the lots that no gap of taken hits -/
def openN (lots : List (List Int)) (taken : List Int) : List Nat := (lots.zipIdx.filter fun p => !p.1.any fun g => decide (g ∈ taken)).map (·.2)
def keyS (lots : List (List Int)) (j : Nat) : List Int := [((lots.getD j []).length : Int), (j : Int)]
/-- the place of a shortest lot among js -/
def shortN (lots : List (List Int)) (js : List Nat) : Nat := js.getD (minAt HT.lexLt (js.map (keyS lots))) 0
theorem minAt_lt {κ : Type} {lt : κ → κ → Bool} : ∀ {ks : List κ}, ks ≠ [] → minAt lt ks < ks.length
  | [], h => absurd rfl h
  | [_], _ => Nat.zero_lt_one
  | a :: b :: r, _ => by
    have h1 := minAt_lt (lt := lt) (ks := b :: r) (by simp)
    unfold minAt
    rw [List.getElem?_eq_getElem h1]
    show (if lt (b :: r)[minAt lt (b :: r)] a = true then minAt lt (b :: r) + 1 else 0) < _
    split
    · simp at h1 ⊢; omega
    · simp
theorem getD_mem {α : Type} {l : List α} {j : Nat} {d : α} (hl : j < l.length) : l.getD j d ∈ l := by
  rw [List.getD_eq_getElem?_getD, List.getElem?_eq_getElem hl]
  exact List.getElem_mem hl
theorem shortN_mem {lots : List (List Int)} {js : List Nat} (h : js ≠ []) : shortN lots js ∈ js := by
  have := minAt_lt (lt := HT.lexLt) (ks := js.map (keyS lots)) (by simpa using h)
  rw [List.length_map] at this
  exact getD_mem this
theorem openN_lt {lots : List (List Int)} {taken : List Int} {j : Nat} (h : j ∈ openN lots taken) : j < lots.length := by
  unfold openN at h
  obtain ⟨p, hp, rfl⟩ := List.mem_map.mp h
  have q := List.mk_mem_zipIdx_iff_getElem?.mp (List.mem_filter.mp hp).1
  exact (List.getElem?_eq_some_iff.mp q).1
/-- the lot that can_hit looks at -/
def lotAt (lots : List (List Int)) (taken : List Int) : List Int := lots.getD (shortN lots (openN lots taken)) []
def canHit (lots : List (List Int)) (first : Int) : Nat → List Int → Bool
  | 0, taken => (openN lots taken).isEmpty
  | m + 1, taken => (openN lots taken).isEmpty || (lotAt lots taken).any fun g => decide (first ≤ g) && canHit lots first m (taken ++ [g])
theorem open_of_not {lots : List (List Int)} {first : Int} {m : Nat} {taken : List Int} (h : canHit lots first m taken = false) : openN lots taken ≠ [] := fun e => by
  cases m with
  | zero => unfold canHit at h; rw [e] at h; cases h
  | succ m => unfold canHit at h; rw [e] at h; cases h
theorem sub_of_not {lots : List (List Int)} {first : Int} {m : Nat} {taken : List Int} (h : canHit lots first (m + 1) taken = false) {g : Int} (hg : g ∈ lotAt lots taken) (h0 : first ≤ g) : canHit lots first m (taken ++ [g]) = false := by
  unfold canHit at h
  rw [Bool.or_eq_false_iff] at h
  have h2 := List.any_eq_false.mp h.2 g hg
  rw [decide_eq_true h0, Bool.true_and] at h2
  simpa using h2
theorem lotAt_mem {lots : List (List Int)} {taken : List Int} (h : openN lots taken ≠ []) : lotAt lots taken ∈ lots := getD_mem (openN_lt (shortN_mem h))
theorem lotAt_open {lots : List (List Int)} {taken : List Int} (h : openN lots taken ≠ []) : ((lotAt lots taken).any fun g => decide (g ∈ taken)) = false := by
  have q := shortN_mem (lots := lots) h
  have ql := openN_lt q
  unfold openN at q
  obtain ⟨p, hp, e⟩ := List.mem_map.mp q
  have q1 := List.mk_mem_zipIdx_iff_getElem?.mp (List.mem_filter.mp hp).1
  have q2 := (List.mem_filter.mp hp).2
  have e2 : lotAt lots taken = p.1 := by
    unfold lotAt
    rw [List.getD_eq_getElem?_getD]
    have e' : shortN lots (openN lots taken) = p.2 := e.symm
    rw [e', q1]
    rfl
  rw [e2]
  simpa using q2
def firstOf (found : List Int) : Int := match found.getLast? with
  | none => 0
  | some x => x + 1
def stepL (many : Int) (lots : List (List Int)) (m : Nat) (found : List Int) : List Int := (rgD (firstOf found) many).filter fun g => canHit lots (g + 1) m (found ++ [g])
def leastOf (many : Int) (lots : List (List Int)) : Nat → List Int → Option (List Int)
  | 0, found => some found
  | m + 1, found => match stepL many lots m found with
    | [] => none
    | g :: _ => leastOf many lots m (found ++ [g])
theorem stepL_ge {many : Int} {lots : List (List Int)} {m : Nat} {found : List Int} {g : Int} (h : g ∈ stepL many lots m found) : firstOf found ≤ g ∧ g < many := by
  have h := (List.mem_filter.mp h).1
  unfold rgD at h
  obtain ⟨i, hi, rfl⟩ := List.mem_map.mp h
  have := List.mem_range.mp hi
  omega
def Asc (many : Int) (l : List Int) : Prop := l.Pairwise (· < ·) ∧ ∀ g ∈ l, 0 ≤ g ∧ g < many
theorem rgD_mem {a b g : Int} : g ∈ rgD a b ↔ a ≤ g ∧ g < b := by
  unfold rgD
  rw [List.mem_map]
  constructor
  · rintro ⟨i, hi, rfl⟩
    have := List.mem_range.mp hi
    omega
  · rintro ⟨h1, h2⟩
    exact ⟨(g - a).toNat, List.mem_range.mpr (by omega), by omega⟩
theorem rgD_asc {a b : Int} : (rgD a b).Pairwise (· < ·) := by
  unfold rgD
  refine List.pairwise_map.mpr (List.pairwise_lt_range.imp fun h => by omega)
theorem asc_len {many : Int} {l : List Int} (h : Asc many l) (hm : 0 ≤ many) : (l.length : Int) ≤ many := by
  obtain ⟨h1, h2⟩ := h
  have : ∀ (l : List Int) (a : Int), l.Pairwise (· < ·) → (∀ g ∈ l, a ≤ g ∧ g < many) → a ≤ many → (l.length : Int) ≤ many - a := by
    intro l
    induction l with
    | nil => intro a _ _ h; simp; omega
    | cons x r ih =>
      intro a hp hg ha
      have h3 := hg x List.mem_cons_self
      have := ih (x + 1) (List.pairwise_cons.mp hp).2 (fun g hg' => ⟨by have := (List.pairwise_cons.mp hp).1 g hg'; omega, (hg g (List.mem_cons_of_mem _ hg')).2⟩) (by omega)
      simp
      omega
  have := this l 0 h1 h2 hm
  omega
def tauF (lots : List (List Int)) : Nat := ((List.range 17).find? fun n => canHit lots 0 n []).getD 0
def leastF (many : Int) (lots : List (List Int)) : List Int := (leastOf many lots (tauF lots) []).getD []
/-- lots, none of them empty -/
structure Lots (many : Int) (lots : List (List Int)) : Prop where
  rng : 1 ≤ many ∧ many ≤ 16
  asc : ∀ l ∈ lots, Asc many l
  ne' : [] ∉ lots
def Hits (s : List Int) (lots : List (List Int)) : Prop := ∀ l ∈ lots, ∃ g, g ∈ l ∧ g ∈ s
theorem open_nil {lots : List (List Int)} {taken : List Int} : (openN lots taken).isEmpty = true ↔ Hits taken lots := by
  rw [List.isEmpty_iff]
  unfold openN
  rw [List.map_eq_nil_iff, List.filter_eq_nil_iff]
  constructor
  · intro h l hl
    obtain ⟨i, hi, rfl⟩ := List.mem_iff_getElem.mp hl
    have := h (lots[i], i) (List.mk_mem_zipIdx_iff_getElem?.mpr (List.getElem?_eq_getElem hi))
    simpa using this
  · intro h p hp
    have hl : p.1 ∈ lots := List.mem_of_getElem? (List.mk_mem_zipIdx_iff_getElem?.mp hp)
    simpa using h p.1 hl
theorem canHit_iff {lots : List (List Int)} {first : Int} : ∀ (m : Nat) (taken : List Int), canHit lots first m taken = true ↔ ∃ s : List Int, s.length ≤ m ∧ (∀ g ∈ s, first ≤ g) ∧ Hits (taken ++ s) lots
  | 0, taken => by
    rw [canHit, open_nil]
    constructor
    · intro h; exact ⟨[], Nat.le_refl _, fun g h => (by cases h), by rw [List.append_nil]; exact h⟩
    · rintro ⟨s, hs, _, h⟩
      have : s = [] := List.length_eq_zero_iff.mp (by omega)
      rw [this, List.append_nil] at h
      exact h
  | m + 1, taken => by
    rw [canHit, Bool.or_eq_true, open_nil, List.any_eq_true]
    constructor
    · rintro (h | ⟨g, hg, h⟩)
      · exact ⟨[], Nat.zero_le _, fun g h => (by cases h), by rw [List.append_nil]; exact h⟩
      · rw [Bool.and_eq_true, canHit_iff m] at h
        obtain ⟨h0, s, hs, hf, hh⟩ := h
        exact ⟨g :: s, by simp; omega, fun x hx => by
          rcases List.mem_cons.mp hx with rfl | hx
          · exact of_decide_eq_true h0
          · exact hf x hx, by rw [List.append_assoc] at hh; exact hh⟩
    · rintro ⟨s, hs, hf, hh⟩
      by_cases ho : openN lots taken = []
      · exact .inl (open_nil.mp (by rw [ho]; rfl))
      · right
        have hm := lotAt_mem ho
        have hu := lotAt_open ho
        obtain ⟨g, g1, g2⟩ := hh _ hm
        have g3 : g ∉ taken := by
          have := List.any_eq_false.mp hu g g1
          simpa using this
        have g4 : g ∈ s := by
          rcases List.mem_append.mp g2 with z | z
          · exact absurd z g3
          · exact z
        refine ⟨g, g1, ?_⟩
        rw [Bool.and_eq_true, canHit_iff m]
        refine ⟨decide_eq_true (hf g g4), s.erase g, by rw [List.length_erase_of_mem g4]; omega, fun x hx => hf x (List.mem_of_mem_erase hx), fun l hl => ?_⟩
        obtain ⟨x, x1, x2⟩ := hh l hl
        refine ⟨x, x1, ?_⟩
        rw [List.append_assoc]
        rcases List.mem_append.mp x2 with z | z
        · exact List.mem_append.mpr (.inl z)
        · by_cases e : x = g
          · subst e; simp
          · exact List.mem_append.mpr (.inr (List.mem_cons_of_mem _ ((List.mem_erase_of_ne e).mpr z)))
def lexLe : List Int → List Int → Prop
  | [], _ => True
  | _ :: _, [] => False
  | a :: x, b :: y => a < b ∨ (a = b ∧ lexLe x y)
theorem lexLe_anti : ∀ {x y : List Int}, lexLe x y → lexLe y x → x = y
  | [], [], _, _ => rfl
  | [], _ :: _, _, h => h.elim
  | _ :: _, [], h, _ => h.elim
  | a :: x, b :: y, h1, h2 => by
    rcases h1 with h1 | ⟨rfl, h1⟩
    · rcases h2 with h2 | ⟨rfl, h2⟩
      · omega
      · omega
    · rcases h2 with h2 | ⟨_, h2⟩
      · omega
      · rw [lexLe_anti h1 h2]
theorem lexLe_refl : ∀ x : List Int, lexLe x x
  | [] => trivial
  | _ :: x => .inr ⟨rfl, lexLe_refl x⟩
theorem lexLe_app : ∀ {x y u v : List Int}, x.length = y.length → lexLe x y → lexLe u v → lexLe (x ++ u) (y ++ v)
  | [], [], _, _, _, _, h => h
  | [], _ :: _, _, _, e, _, _ => by cases e
  | _ :: _, [], _, _, e, _, _ => by cases e
  | a :: x, b :: y, u, v, e, h, h' => by
    rcases h with h | ⟨rfl, h⟩
    · exact .inl h
    · exact .inr ⟨rfl, lexLe_app (by simpa using e) h h'⟩
theorem lexLe_map (k : Int) : ∀ {x y : List Int}, lexLe x y → lexLe (x.map fun g => g + k) (y.map fun g => g + k)
  | [], _, _ => trivial
  | _ :: _, [], h => h.elim
  | a :: x, b :: y, h => by
    rcases h with h | ⟨rfl, h⟩
    · exact .inl (by show a + k < b + k; omega)
    · exact .inr ⟨rfl, lexLe_map k h⟩
/-- ascending, strictly, from a list without twins -/
theorem isI_mem {l : List Int} {x : Int} : x ∈ isI l ↔ x ∈ l := (isI_perm l).mem_iff
theorem isI_lt {l : List Int} (h : l.Nodup) : (isI l).Pairwise (· < ·) := by
  have h1 := isI_asc l
  have h2 : (isI l).Nodup := (isI_perm l).nodup_iff.mpr h
  exact (h1.and h2).imp fun ⟨a, b⟩ => by omega
theorem hits_mono {s t : List Int} {lots : List (List Int)} (h : Hits s lots) (st : ∀ g ∈ s, g ∈ t) : Hits t lots := fun l hl => let ⟨g, g1, g2⟩ := h l hl; ⟨g, g1, st g g2⟩
/-- a shorter list of the same members, without twins -/
theorem dedup (s : List Int) : ∃ t : List Int, t.Nodup ∧ (∀ g, g ∈ t ↔ g ∈ s) ∧ t.length ≤ s.length ∧ (t.length = s.length → s.Nodup) := by
  induction s with
  | nil => exact ⟨[], .nil, fun _ => Iff.rfl, Nat.le_refl _, fun _ => .nil⟩
  | cons x r ih =>
    obtain ⟨t, h1, h2, h3, h4⟩ := ih
    by_cases hx : x ∈ r
    · exact ⟨t, h1, fun g => ⟨fun h => List.mem_cons_of_mem _ ((h2 g).mp h), fun h => by
        rcases List.mem_cons.mp h with rfl | h
        · exact (h2 g).mpr hx
        · exact (h2 g).mpr h⟩, by simp; omega, fun e => by simp at e; omega⟩
    · exact ⟨x :: t, List.nodup_cons.mpr ⟨fun h => hx ((h2 x).mp h), h1⟩, fun g => by rw [List.mem_cons, List.mem_cons, h2 g], by simp; omega, fun e => List.nodup_cons.mpr ⟨hx, h4 (by simpa using e)⟩⟩
/-- lots below many -/
def InR (many : Int) (lots : List (List Int)) : Prop := ∀ l ∈ lots, ∀ g ∈ l, 0 ≤ g ∧ g < many
structure Ext (many : Int) (lots : List (List Int)) (m : Nat) (found s : List Int) : Prop where
  len : s.length = m
  asc : s.Pairwise (· < ·)
  rng : ∀ g ∈ s, firstOf found ≤ g ∧ g < many
  hit : Hits (found ++ s) lots
theorem firstOf_snoc (f : List Int) (g : Int) : firstOf (f ++ [g]) = g + 1 := by unfold firstOf; rw [List.getLast?_append]; rfl
theorem ext_of_can {many : Int} {lots : List (List Int)} (hr : InR many lots) {m size : Nat} {found : List Int} {g : Int} (hmin : ∀ s, Hits s lots → size ≤ s.length) (hl : found.length + (m + 1) = size) (h : canHit lots (g + 1) m (found ++ [g]) = true) : ∃ s, Ext many lots m (found ++ [g]) s := by
  obtain ⟨s, hs, hf, hh⟩ := (canHit_iff m _).mp h
  -- what is below many is enough
  have h1 : Hits (found ++ [g] ++ s.filter fun x => decide (x < many)) lots := fun l hl => by
    obtain ⟨x, x1, x2⟩ := hh l hl
    refine ⟨x, x1, ?_⟩
    rcases List.mem_append.mp x2 with z | z
    · exact List.mem_append.mpr (.inl z)
    · exact List.mem_append.mpr (.inr (List.mem_filter.mpr ⟨z, decide_eq_true (hr l hl x x1).2⟩))
  have fl := List.length_filter_le (fun x => decide (x < many)) s
  obtain ⟨t, t1, t2, t3, t4⟩ := dedup (s.filter fun x => decide (x < many))
  have h2 : Hits (found ++ [g] ++ t) lots := hits_mono h1 fun x hx => by
    rcases List.mem_append.mp hx with z | z
    · exact List.mem_append.mpr (.inl z)
    · exact List.mem_append.mpr (.inr ((t2 x).mpr z))
  have h3 := hmin _ h2
  rw [List.length_append, List.length_append, List.length_singleton] at h3
  refine ⟨isI t, by rw [(isI_perm t).length_eq]; omega, isI_lt t1, fun x hx => ?_, hits_mono h2 fun x hx => ?_⟩
  · have := (t2 x).mp (isI_mem.mp hx)
    have h4 := List.mem_filter.mp this
    rw [firstOf_snoc]
    exact ⟨hf x h4.1, of_decide_eq_true h4.2⟩
  · rcases List.mem_append.mp hx with z | z
    · exact List.mem_append.mpr (.inl z)
    · exact List.mem_append.mpr (.inr (isI_mem.mpr z))
theorem can_of_ext {many : Int} {lots : List (List Int)} {m : Nat} {found s : List Int} {g : Int} (h : Ext many lots m (found ++ [g]) s) : canHit lots (g + 1) m (found ++ [g]) = true :=
  (canHit_iff m _).mpr ⟨s, Nat.le_of_eq h.len, fun x hx => by have := (h.rng x hx).1; rwa [firstOf_snoc] at this, h.hit⟩
theorem ext_tail {many : Int} {lots : List (List Int)} {m : Nat} {found s : List Int} {x : Int} (h : Ext many lots (m + 1) found (x :: s)) : Ext many lots m (found ++ [x]) s := by
  have hp := List.pairwise_cons.mp h.asc
  refine ⟨by have := h.len; simpa using this, hp.2, fun g hg => ⟨?_, (h.rng g (List.mem_cons_of_mem _ hg)).2⟩, by have := h.hit; rw [List.append_assoc]; exact this⟩
  rw [firstOf_snoc]
  have := hp.1 g hg
  omega
theorem leastOf_spec {many : Int} {lots : List (List Int)} (hr : InR many lots) {size : Nat} (hmin : ∀ s, Hits s lots → size ≤ s.length) : ∀ (m : Nat) (found : List Int), found.length + m = size → (∃ s, Ext many lots m found s) →
    ∃ t, leastOf many lots m found = some (found ++ t) ∧ Ext many lots m found t ∧ ∀ s, Ext many lots m found s → lexLe t s
  | 0, found, _, ⟨s, hs⟩ => by
    have e : s = [] := List.length_eq_zero_iff.mp hs.len
    subst e
    exact ⟨[], by rw [leastOf, List.append_nil], hs, fun _ _ => trivial⟩
  | m + 1, found, hl, ⟨s, hs⟩ => by
    have cand : ∀ x s', Ext many lots (m + 1) found (x :: s') → x ∈ stepL many lots m found := fun x s' h => by
      unfold stepL
      refine List.mem_filter.mpr ⟨?_, can_of_ext (ext_tail h)⟩
      have := h.rng x List.mem_cons_self
      exact rgD_mem.mpr this
    cases s with
    | nil => have := hs.len; cases this
    | cons x0 s0 =>
    have hx0 := cand x0 s0 hs
    cases hst : stepL many lots m found with
    | nil => rw [hst] at hx0; cases hx0
    | cons g rest =>
    have hg : g ∈ stepL many lots m found := by rw [hst]; exact List.mem_cons_self
    have hg2 := (List.mem_filter.mp hg).2
    have hg3 := stepL_ge hg
    have hasc : (stepL many lots m found).Pairwise (· < ·) := List.Pairwise.sublist List.filter_sublist rgD_asc
    rw [hst] at hasc
    have hle : ∀ x ∈ stepL many lots m found, g ≤ x := fun x hx => by
      rw [hst] at hx
      rcases List.mem_cons.mp hx with rfl | hx
      · exact Int.le_refl _
      · exact Int.le_of_lt ((List.pairwise_cons.mp hasc).1 x hx)
    obtain ⟨t, e, ht, hlex⟩ := leastOf_spec hr hmin m (found ++ [g]) (by rw [List.length_append, List.length_singleton]; omega) (ext_of_can hr hmin hl hg2)
    refine ⟨g :: t, ?_, ⟨by simp [ht.len], List.pairwise_cons.mpr ⟨fun y hy => ?_, ht.asc⟩, fun y hy => ?_, by have := ht.hit; rw [List.append_assoc] at this; exact this⟩, fun s hs => ?_⟩
    · rw [leastOf, hst]
      show leastOf many lots m (found ++ [g]) = _
      rw [e, List.append_assoc]
      rfl
    · have := (ht.rng y hy).1
      rw [firstOf_snoc] at this
      omega
    · rcases List.mem_cons.mp hy with rfl | hy
      · exact hg3
      · have := ht.rng y hy
        rw [firstOf_snoc] at this
        exact ⟨by omega, this.2⟩
    · cases s with
      | nil => have := hs.len; cases this
      | cons x s' =>
        have h1 := hle x (cand x s' hs)
        by_cases e : g = x
        · subst e
          exact .inr ⟨rfl, hlex s' (ext_tail hs)⟩
        · exact .inl (by omega)
/-- r is what least_hits tells -/
structure IsL (many : Int) (lots : List (List Int)) (r : List Int) : Prop where
  asc : Asc many r
  hit : Hits r lots
  min : ∀ s, Hits s lots → r.length ≤ s.length
  lex : ∀ s, Asc many s → Hits s lots → s.length = r.length → lexLe r s
theorem IsL.uniq {many : Int} {lots : List (List Int)} {r r' : List Int} (h : IsL many lots r) (h' : IsL many lots r') : r = r' := by
  have e : r.length = r'.length := Nat.le_antisymm (h.min _ h'.hit) (h'.min _ h.hit)
  exact lexLe_anti (h.lex _ h'.asc h'.hit e.symm) (h'.lex _ h.asc h.hit e)
theorem IsL.congr {many : Int} {lots lots' : List (List Int)} {r : List Int} (h : IsL many lots r) (e : ∀ s, Hits s lots ↔ Hits s lots') : IsL many lots' r :=
  ⟨h.asc, (e r).mp h.hit, fun s hs => h.min s ((e s).mpr hs), fun s a b c => h.lex s a ((e s).mpr b) c⟩
theorem Lots.inR {many : Int} {lots : List (List Int)} (ok : Lots many lots) : InR many lots := fun l hl g hg => (ok.asc l hl).2 g hg
theorem Lots.ne {many : Int} {lots : List (List Int)} (ok : Lots many lots) {l : List Int} (hl : l ∈ lots) : ∃ g, g ∈ l := by
  cases l with
  | nil => exact absurd hl ok.ne'
  | cons g r => exact ⟨g, List.mem_cons_self⟩
theorem find_least {p : Nat → Bool} : ∀ {n a : Nat}, (List.range n).find? p = some a → p a = true ∧ a < n ∧ ∀ m, m < a → p m = false := by
  intro n a h
  refine ⟨List.find?_some h, List.mem_range.mp (List.mem_of_find?_eq_some h), fun m hm => ?_⟩
  obtain ⟨_, as, bs, e, hb⟩ := List.find?_eq_some_iff_append.mp h
  have hlen : as.length = a := by
    have h1 : (List.range n)[as.length]? = some a := by rw [e, List.getElem?_append_right (Nat.le_refl _), Nat.sub_self]; rfl
    have hlt : as.length < n := by
      have := (List.getElem?_eq_some_iff.mp h1).1
      rwa [List.length_range] at this
    rw [List.getElem?_range hlt] at h1
    exact Option.some.inj h1
  have hm2 : m ∈ as := by
    have h1 : (List.range n)[m]? = some m := List.getElem?_range (by have := List.mem_range.mp (List.mem_of_find?_eq_some h); omega)
    rw [e, List.getElem?_append_left (by omega)] at h1
    exact List.mem_of_getElem? h1
  have := hb m hm2
  simpa using this
theorem tau_spec {many : Int} {lots : List (List Int)} (ok : Lots many lots) : tauF lots ≤ 16 ∧ canHit lots 0 (tauF lots) [] = true ∧ (∀ m, m < tauF lots → canHit lots 0 m [] = false) ∧ ∀ s, Hits s lots → tauF lots ≤ s.length := by
  have hm := ok.rng
  have all : Hits (rgD 0 many) lots := fun l hl => by
    obtain ⟨g, hg⟩ := ok.ne hl
    exact ⟨g, hg, rgD_mem.mpr (ok.inR l hl g hg)⟩
  have hlen : (rgD 0 many).length ≤ 16 := by unfold rgD; rw [List.length_map, List.length_range]; omega
  have c16 : canHit lots 0 16 [] = true := (canHit_iff 16 []).mpr ⟨rgD 0 many, hlen, fun g hg => (rgD_mem.mp hg).1, all⟩
  cases h : (List.range 17).find? fun n => canHit lots 0 n [] with
  | none =>
    have := List.find?_eq_none.mp h 16 (List.mem_range.mpr (by decide))
    rw [c16] at this
    exact absurd rfl this
  | some a =>
    obtain ⟨h1, h2, h3⟩ := find_least h
    have e : tauF lots = a := by unfold tauF; rw [h]; rfl
    rw [e]
    refine ⟨by omega, h1, h3, fun s hs => ?_⟩
    rcases Nat.lt_or_ge s.length a with z | z
    · have c := (canHit_iff (lots := lots) (first := 0) s.length []).mpr ⟨s.filter fun g => decide (0 ≤ g), List.length_filter_le _ _, fun g hg => of_decide_eq_true (List.mem_filter.mp hg).2, fun l hl => by
        obtain ⟨g, g1, g2⟩ := hs l hl
        exact ⟨g, g1, List.mem_append.mpr (.inr (List.mem_filter.mpr ⟨g2, decide_eq_true (ok.inR l hl g g1).1⟩))⟩⟩
      rw [h3 _ z] at c
      cases c
    · exact z
theorem least_spec {many : Int} {lots : List (List Int)} (ok : Lots many lots) : leastOf many lots (tauF lots) [] = some (leastF many lots) ∧ (leastF many lots).length = tauF lots ∧ IsL many lots (leastF many lots) := by
  obtain ⟨t16, tc, _, tmin⟩ := tau_spec ok
  have hr := ok.inR
  -- some ascending list of this size
  obtain ⟨s, hs, hf, hh⟩ := (canHit_iff _ _).mp tc
  rw [List.nil_append] at hh
  have h1 : Hits (s.filter fun x => decide (x < many)) lots := fun l hl => by
    obtain ⟨x, x1, x2⟩ := hh l hl
    exact ⟨x, x1, List.mem_filter.mpr ⟨x2, decide_eq_true (hr l hl x x1).2⟩⟩
  have fl := List.length_filter_le (fun x => decide (x < many)) s
  obtain ⟨t, t1, t2, t3, t4⟩ := dedup (s.filter fun x => decide (x < many))
  have h2 : Hits t lots := hits_mono h1 fun x hx => (t2 x).mpr hx
  have h3 := tmin _ h2
  have hext : ∃ s, Ext many lots (tauF lots) [] s := ⟨isI t, by rw [(isI_perm t).length_eq]; omega, isI_lt t1, fun x hx => by
    have h4 := List.mem_filter.mp ((t2 x).mp (isI_mem.mp hx))
    exact ⟨hf x h4.1, of_decide_eq_true h4.2⟩, hits_mono h2 fun x hx => isI_mem.mpr hx⟩
  obtain ⟨r, e, hr2, hlex⟩ := leastOf_spec hr tmin (tauF lots) [] (by simp) hext
  rw [List.nil_append] at e
  have er : leastF many lots = r := by unfold leastF; rw [e]; rfl
  rw [er]
  refine ⟨e, hr2.len, ⟨⟨hr2.asc, fun g hg => hr2.rng g hg⟩, hr2.hit, fun s hs => by rw [hr2.len]; exact tmin s hs, fun s ha hb hc => hlex s ⟨by rw [hc, hr2.len], ha.1, fun g hg => ha.2 g hg, hb⟩⟩⟩
theorem IsL.eq {many : Int} {lots : List (List Int)} {r : List Int} (ok : Lots many lots) (h : IsL many lots r) : leastF many lots = r := (least_spec ok).2.2.uniq h
end KH

set_option Elab.async false
set_option linter.all false
set_option maxRecDepth 100000
set_option maxHeartbeats 4000000
/-! The defs as functions. -/
namespace K41
open PySem PySem.Spec PyProof.Rows L2 LamX C8 Fx
def top (i : Nat) : Stmt := PySem.Challenge.pw_lanesmeet_k41_fewest_gaps.main.body.getD i (.Pass ⟨0, 0, 0, 0⟩)
structure Bn (mg : Str → Option Value) : Prop where
  isinstance : mg "isinstance" = none
  int : mg "int" = none
  bool : mg "bool" = none
  list : mg "list" = none
  tuple : mg "tuple" = none
  all : mg "all" = none
  any : mg "any" = none
  zip : mg "zip" = none
  enumerate : mg "enumerate" = none
  range : mg "range" = none
  len : mg "len" = none
  min : mg "min" = none
  max : mg "max" = none
  abs : mg "abs" = none
  sorted : mg "sorted" = none
  repr : mg "repr" = none
  cMOST_GAPS : ∃ t, mg "MOST_GAPS" = some (.int 16 t)
  cMOST_LOTS : ∃ t, mg "MOST_LOTS" = some (.int 400 t)
/-- the classes of errors -/
structure Ec where
  LaneError : Addr
  BadMany : Addr
  BadLots : Addr
  BadNumber : Addr
structure EcOk (P : Program) (w : World) (K : PySem.W.Frag) (mg : Str → Option Value) (base : Heap) (ec : Ec) : Prop where
  LaneError : XCl K mg "LaneError" ec.LaneError
  BadMany : XCl K mg "BadMany" ec.BadMany
  BadNumber : XCl K mg "BadNumber" ec.BadNumber
  BadLots : XClF P w K mg base 1 "BadLots" "at" ec.BadLots
  cau : ∀ C ∈ [ec.BadLots, ec.BadMany, ec.BadNumber], PySem.W.exmOne K (.ref C) (.ref ec.LaneError) = some true
  isi : ∀ C ∈ [ec.BadLots, ec.BadMany], ExcC K C ∧ PySem.W.kitOne K (.ref C) (.ref C) = some true
  fld : ∀ C ∈ [ec.BadLots], XfC K C ∧ PySem.W.findIn K (.ref C) "at" = some none
section
variable {P : Program} {w : World} {K : PySem.W.Frag} {mg : Str → Option Value} {base : Heap} {T : List (Addr × Str)} {cdv cdc : Value} {c0 P0 : Addr} {ec : Ec}
/-! ### is_number -/
def b_is_number (ec : Ec) : Env' → M Out :=
  (sRet (eAnd (eB (bIsi [ec.BadLots, ec.BadMany]) (aCons (eVar 0) (aCons (eC (.raw (.ty "int"))) aNil))) (eNot (eB (bIsi [ec.BadLots, ec.BadMany]) (aCons (eVar 0) (aCons (eC (.raw (.ty "bool"))) aNil))))))
theorem nd_is_number : (["value"] : List PySem.Str).Nodup := by decide +kernel
def f_is_number (ec : Ec) : List D → M D := fnM 1 1 (b_is_number ec)
theorem ok_is_number (F : Df K mg "is_number" (top 6) ["value"] cdv) (B : Bn mg) (C : EcOk P w K mg base ec)  : CalX P w K mg base (0 + 1) "is_number" (SpM T K (f_is_number ec)) := by
  have nd := nd_is_number
  exact calM (N := ["value"]) F (by decide +kernel) rfl rfl (fun a A outer s H E hr => ⟨_, (pss_one (ps_ret (pe_and (pe_callB (kisA K) rfl (by exact B.isinstance) (by decide +kernel) (pa_cons (pv 0) (pa_cons (pe_bltn (v := .ty "int") rfl (by exact B.int) (by decide +kernel) rfl) pa_nil))) (pe_one (pe_not (pe_callB (kisA K) rfl (by exact B.isinstance) (by decide +kernel) (pa_cons (pv 0) (pa_cons (pe_bltn (v := .ty "bool") rfl (by exact B.bool) (by decide +kernel) rfl) pa_nil)))))))),
    (show SS T K E _ (b_is_number ec) from (ss_ret (se_and (se_b (bf_isi C.isi) (sa_cons se_var (sa_cons se_raw sa_nil))) (se_not (se_b (bf_isi C.isi) (sa_cons se_var (sa_cons se_raw sa_nil)))))))⟩)
/-! ### is_list -/
def b_is_list (ec : Ec) : Env' → M Out :=
  (sRet (eB (bIsi [ec.BadLots, ec.BadMany]) (aCons (eVar 0) (aCons (eTup (aCons (eC (.raw (.ty "list"))) (aCons (eC (.raw (.ty "tuple"))) aNil))) aNil))))
theorem nd_is_list : (["value"] : List PySem.Str).Nodup := by decide +kernel
def f_is_list (ec : Ec) : List D → M D := fnM 1 1 (b_is_list ec)
theorem ok_is_list (F : Df K mg "is_list" (top 7) ["value"] cdv) (B : Bn mg) (C : EcOk P w K mg base ec)  : CalX P w K mg base (0 + 1) "is_list" (SpM T K (f_is_list ec)) := by
  have nd := nd_is_list
  exact calM (N := ["value"]) F (by decide +kernel) rfl rfl (fun a A outer s H E hr => ⟨_, (pss_one (ps_ret (pe_callB (kisA K) rfl (by exact B.isinstance) (by decide +kernel) (pa_cons (pv 0) (pa_cons (pe_tup (pa_cons (pe_bltn (v := .ty "list") rfl (by exact B.list) (by decide +kernel) rfl) (pa_cons (pe_bltn (v := .ty "tuple") rfl (by exact B.tuple) (by decide +kernel) rfl) pa_nil))) pa_nil))))),
    (show SS T K E _ (b_is_list ec) from (ss_ret (se_b (bf_isi C.isi) (sa_cons se_var (sa_cons (se_tup (sa_cons se_raw (sa_cons se_raw sa_nil))) sa_nil)))))⟩)
/-! ### is_lot -/
def b_is_lot_c1 (ec : Ec) : Env' → M D :=
  (eAnd (eCall (f_is_number ec) (aCons (eVar 2) aNil)) (eChain oLe oLt (eC (.int 0)) (eVar 2) (eVar 0)))
def b_is_lot_c2 (ec : Ec) : Env' → M D :=
  (eOp oLt (eVar 2) (eVar 3))
def b_is_lot (ec : Ec) : Env' → M Out :=
  (sSeq (sIf (bOr (bNot (bV (eB (bIsi [ec.BadLots, ec.BadMany]) (aCons (eVar 1) (aCons (eC (.raw (.ty "tuple"))) aNil))))) (bNot (bV (eB bAll (aCons (frzM (nLc (iUM (eVar 1)) (tgN 2) bYes (b_is_lot_c1 ec) [2])) aNil))))) (sRet (eC (.bl false))) sNx)
  (sRet (eB bAll (aCons (frzM (nLc (iZip (aCons (eVar 1) (aCons (eSl (eVar 1) (oSome (eC (.int 1))) oNone) aNil))) (tgT ((tgN 2) :: ((tgN 3) :: []))) bYes (b_is_lot_c2 ec) [2, 3])) aNil))))
theorem nd_is_lot : (["many", "thing", "gap", "later"] : List PySem.Str).Nodup := by decide +kernel
def f_is_lot (ec : Ec) : List D → M D := fnM 2 4 (b_is_lot ec)
theorem ok_is_lot (F : Df K mg "is_lot" (top 13) ["many", "thing"] cdv) (B : Bn mg) (C : EcOk P w K mg base ec) (c_is_number : CalX P w K mg base 1 "is_number" (SpM T K (f_is_number ec))) : CalX P w K mg base (1 + 1) "is_lot" (SpM T K (f_is_lot ec)) := by
  have nd := nd_is_lot
  exact calM (N := ["many", "thing", "gap", "later"]) F (by decide +kernel) rfl rfl (fun a A outer s H E hr => ⟨_, (pss_cons (ps_if (PW.pt (pw_or (pt_not (pt_val (pe_callB (kisA K) rfl (by exact B.isinstance) (by decide +kernel) (pa_cons (pv 1) (pa_cons (pe_bltn (v := .ty "tuple") rfl (by exact B.tuple) (by decide +kernel) rfl) pa_nil))))) (pw_or1 (pt_not (pt_val (pe_callB (kall K rfl) rfl (by exact B.all) (by decide +kernel) (pa_cons (pe_lc rfl nd (kpi_U K (pv 1)) (blkOk_by (own := [("gap", 2)]) (by rfl)) (fun _ _ _ _ _ => (pg_name (i := 2) nd rfl (Or.inl rfl))) (fun _ _ _ _ _ => pts_nil) (fun _ _ _ _ _ => (pe_and (pe_cx c_is_number hr (by omega) rfl takesN (pa_cons (pv 2) pa_nil)) (pe_one (pe_chain op_le (klt K hr.units) pe_int (pv 2) (pv 0)))))) pa_nil))))))) (pss_one (ps_ret pe_bl)) pss_nil)
    (pss_one (ps_ret (pe_callB (kall K rfl) rfl (by exact B.all) (by decide +kernel) (pa_cons (pe_lc (g := gTup K 2 (gCons (gName 2) (gCons (gName 3) gNil))) rfl nd (kpi_zip K rfl (by exact B.zip) (pa_cons (pv 1) (pa_cons (pe_slice (kslU K) (pv 1) (po_some pe_int) po_none) pa_nil))) (blkOk_by (own := [("gap", 2), ("later", 3)]) (by rfl)) (fun _ _ _ _ _ => (by exact pg_tup rfl (pgs_cons (pg_name (i := 2) nd rfl (Or.inl rfl)) (pgs_cons (pg_name (i := 3) nd rfl (Or.inl rfl)) pgs_nil)))) (fun _ _ _ _ _ => pts_nil) (fun _ _ _ _ _ => (pe_cmpR (klt K hr.units) (pv 2) (pv 3) (nomark _)))) pa_nil))))),
    (show SS T K E _ (b_is_lot ec) from (ss_seq (ss_if (sb_or (sb_not (sb_B (se_b (bf_isi C.isi) (sa_cons se_var (sa_cons se_raw sa_nil))))) (sb_not (sb_B (se_b bf_all (sa_cons (se_sn (sn_lc (si_U se_var) sg_name (by decide) sb_yes (se_and (se_call (sa_cons se_var sa_nil)) (se_chain ok_le ok_lt se_int se_var se_var)))) sa_nil))))) (ss_ret se_bl) ss_nx)
    (ss_ret (se_b bf_all (sa_cons (se_sn (sn_lc (si_zip (sa_cons se_var (sa_cons (se_sl se_var (so_some se_int) so_none) sa_nil))) (sg_tup (sgs_cons sg_name (sgs_cons sg_name sgs_nil)) rfl) (by decide) sb_yes (se_op ok_lt se_var se_var))) sa_nil)))))⟩)
/-! ### need_lots -/
def b_need_lots_f1 (ec : Ec) : Env' → M Out :=
  (sIf (bNot (bV (eCall (f_is_lot ec) (aCons (eVar 0) (aCons (eVar 3) aNil))))) (sRzF ec.BadLots "at" (aCons (eVar 2) aNil)) sNx)
def b_need_lots (ec : Ec) : Env' → M Out :=
  (sSeq (sIf (bOr (bNot (bV (eCall (f_is_number ec) (aCons (eVar 0) aNil)))) (bNot (bV (eChain oLe oLe (eC (.int 1)) (eVar 0) (eC (.int 16)))))) (sRz ec.BadMany) sNx)
  (sSeq (sIf (bOr (bNot (bV (eCall (f_is_list ec) (aCons (eVar 1) aNil)))) (bV (eOp oGt (eB bLen (aCons (eVar 1) aNil)) (eC (.int 400))))) (sRzF ec.BadLots "at" (aCons (eC .non) aNil)) sNx)
  (sFor (iEnum (aCons (eVar 1) aNil)) (tgT ((tgN 2) :: ((tgN 3) :: []))) (b_need_lots_f1 ec))))
theorem nd_need_lots : (["many", "lots", "at", "lot"] : List PySem.Str).Nodup := by decide +kernel
def f_need_lots (ec : Ec) : List D → M D := fnM 2 4 (b_need_lots ec)
theorem ok_need_lots (F : Df K mg "need_lots" (top 14) ["many", "lots"] cdv) (B : Bn mg) (C : EcOk P w K mg base ec) (c_is_number : CalX P w K mg base 1 "is_number" (SpM T K (f_is_number ec))) (c_is_list : CalX P w K mg base 1 "is_list" (SpM T K (f_is_list ec))) (c_is_lot : CalX P w K mg base 2 "is_lot" (SpM T K (f_is_lot ec))) : CalX P w K mg base (2 + 1) "need_lots" (SpM T K (f_need_lots ec)) := by
  have nd := nd_need_lots
  exact calM (N := ["many", "lots", "at", "lot"]) F (by decide +kernel) rfl rfl (fun a A outer s H E hr => ⟨_, (pss_cons (ps_if (PW.pt (pw_or (pt_not (pt_val (pe_cx c_is_number hr (by omega) rfl (takes_of rfl rfl rfl rfl) (pa_cons (pv 0) pa_nil)))) (pw_or1 (pt_not (pt_chain op_le op_le pe_int (pv 0) (pe_cI rfl (by exact B.cMOST_GAPS))))))) (pss_one (ps_rz C.BadMany rfl (takes_of rfl rfl rfl rfl) rfl)) pss_nil)
    (pss_cons (ps_if (PW.pt (pw_or (pt_not (pt_val (pe_cx c_is_list hr (by omega) rfl (takes_of rfl rfl rfl rfl) (pa_cons (pv 1) pa_nil)))) (pw_or1 (pt_cmpR op_gt (pe_callB (klenU K) rfl (by exact B.len) (by decide +kernel) (pa_cons (pv 1) pa_nil)) (pe_cI rfl (by exact B.cMOST_LOTS)) (nomark _))))) (pss_one (ps_rzF C.BadLots hr (by omega) rfl (takes_of rfl rfl rfl rfl) rfl (pa_cons pe_non pa_nil))) pss_nil)
    (pss_one (ps_for (passes_of rfl) rfl (kpi_enumA K rfl (by exact B.enumerate) (pa_cons (pv 1) pa_nil)) (pg_tup rfl (pgs_cons (pg_name (i := 2) nd rfl (Or.inl rfl)) (pgs_cons (pg_name (i := 3) nd rfl (Or.inl rfl)) pgs_nil))) (pss_one (ps_if (pt_not (pt_val (pe_cx c_is_lot hr (by omega) rfl (takes_of rfl rfl rfl rfl) (pa_cons (pv 0) (pa_cons (pv 3) pa_nil))))) (pss_one (ps_rzF C.BadLots hr (by omega) rfl (takes_of rfl rfl rfl rfl) rfl (pa_cons (pv 2) pa_nil))) pss_nil)))))),
    (show SS T K E _ (b_need_lots ec) from (ss_seq (ss_if (sb_or (sb_not (sb_B (se_call (sa_cons se_var sa_nil)))) (sb_not (sb_test (se_chain ok_le ok_le se_int se_var se_int)))) ss_rz ss_nx)
    (ss_seq (ss_if (sb_or (sb_not (sb_B (se_call (sa_cons se_var sa_nil)))) (sb_test (se_op ok_gt (se_b bf_len (sa_cons se_var sa_nil)) se_int))) (ss_rzF (sa_cons se_non sa_nil)) ss_nx)
    (ss_for (si_enum (sa_cons se_var sa_nil)) (sg_tup (sgs_cons sg_name (sgs_cons sg_name sgs_nil)) rfl) (ss_if (sb_not (sb_B (se_call (sa_cons se_var (sa_cons se_var sa_nil))))) (ss_rzF (sa_cons se_var sa_nil)) ss_nx)))))⟩)
/-! ### open_lots -/
def b_open_lots_c1 (ec : Ec) : Env' → M D :=
  (eOp oIn (eVar 4) (eVar 1))
def b_open_lots_t2 (ec : Ec) : Env' → M Bool :=
  (bNot (bV (eB bAny (aCons (frzM (nLc (iUM (eVar 3)) (tgN 4) bYes (b_open_lots_c1 ec) [4])) aNil))))
def b_open_lots (ec : Ec) : Env' → M Out :=
  (sRet (frzM (nLc (iEnum (aCons (eVar 0) aNil)) (tgT ((tgN 2) :: ((tgN 3) :: []))) (b_open_lots_t2 ec) (eVar 2) [2, 3])))
theorem nd_open_lots : (["lots", "taken", "at", "lot", "gap"] : List PySem.Str).Nodup := by decide +kernel
def f_open_lots (ec : Ec) : List D → M D := fnM 2 5 (b_open_lots ec)
theorem ok_open_lots (F : Df K mg "open_lots" (top 15) ["lots", "taken"] cdv) (B : Bn mg) (C : EcOk P w K mg base ec)  : CalX P w K mg base (0 + 1) "open_lots" (SpM T K (f_open_lots ec)) := by
  have nd := nd_open_lots
  exact calM (N := ["lots", "taken", "at", "lot", "gap"]) F (by decide +kernel) rfl rfl (fun a A outer s H E hr => ⟨_, (pss_one (ps_ret (pe_lc (g := gTup K 2 (gCons (gName 2) (gCons (gName 3) gNil))) rfl nd (kpi_enumA K rfl (by exact B.enumerate) (pa_cons (pv 0) pa_nil)) (blkOk_by (own := [("at", 2), ("lot", 3)]) (by rfl)) (fun _ _ _ _ _ => (by exact pg_tup rfl (pgs_cons (pg_name (i := 2) nd rfl (Or.inl rfl)) (pgs_cons (pg_name (i := 3) nd rfl (Or.inl rfl)) pgs_nil)))) (fun _ _ _ _ _ => (pts_one (pt_not (pt_val (pe_callB (kany K rfl) rfl (by exact B.any) (by decide +kernel) (pa_cons (pe_lc rfl nd (kpi_U K (pv 3)) (blkOk_by (own := [("gap", 4)]) (by rfl)) (fun _ _ _ _ _ => (pg_name (i := 4) nd rfl (Or.inl rfl))) (fun _ _ _ _ _ => pts_nil) (fun _ _ _ _ _ => (pe_cmpR (kinU K (room65 hr)) (pv 4) (pv 1) (by rfl)))) pa_nil)))))) (fun _ _ _ _ _ => (pv 2))))),
    (show SS T K E _ (b_open_lots ec) from (ss_ret (se_sn (sn_lc (si_enum (sa_cons se_var sa_nil)) (sg_tup (sgs_cons sg_name (sgs_cons sg_name sgs_nil)) rfl) (by decide) (sb_not (sb_B (se_b bf_any (sa_cons (se_sn (sn_lc (si_U se_var) sg_name (by decide) sb_yes (se_op ok_in se_var se_var))) sa_nil)))) se_var))))⟩)
/-! ### shortest -/
def b_shortest (ec : Ec) : Env' → M Out :=
  (sRet (eMinK HT.lexLt asT? 2 (eVar 1) (eTup (aCons (eB bLen (aCons (eOp oIx (eVar 0) (eVar 2)) aNil)) (aCons (eVar 2) aNil)))))
theorem nd_shortest : (["lots", "indexes", "at"] : List PySem.Str).Nodup := by decide +kernel
def f_shortest (ec : Ec) : List D → M D := fnM 2 3 (b_shortest ec)
theorem ok_shortest (F : Df K mg "shortest" (top 16) ["lots", "indexes"] (.ref c0)) (TB : TabB base mg c0 P0) (hT : (P0, ("shortest.<locals>.<lambda>" : Str)) ∈ T) (hu1 : ∀ p ∈ T, p.1 = P0 → p.2 = ("shortest.<locals>.<lambda>" : Str)) (B : Bn mg) (C : EcOk P w K mg base ec)  : CalX P w K mg base (4 + 1) "shortest" (SpM T K (f_shortest ec)) := by
  have nd := nd_shortest
  exact calM (N := ["lots", "indexes", "at"]) F (by decide +kernel) rfl rfl (fun a A outer s H E hr => ⟨_, (pss_one (ps_ret (pe_minK (j := 2) (T := T) (k := 1) (keyTup _) keyCmp_tup rfl rfl (by exact B.min) (pv 1) TB rfl hT hu1 (hr.mono (by decide)) (lamS1_by (by rfl)) nd rfl rfl (fun _ _ _ _ _ _ => rfl) (fun _ _ _ _ hr => (pe_tup (pa_cons (pe_callB (klenU K) rfl (by exact B.len) (by decide +kernel) (pa_cons (pe_ix (kixU K (room65 hr)) (pv 0) (pv 2) (fun _ _ => rfl)) pa_nil)) (pa_cons (pv 2) pa_nil))))))),
    (show SS T K E _ (b_shortest ec) from (ss_ret (se_minK (KO := keyTup K) keyD_tup swo_lexLt [] asT_eq se_var (se_tup (sa_cons (se_b bf_len (sa_cons (se_op ok_ix se_var se_var) sa_nil)) (sa_cons se_var sa_nil))))))⟩)
/-! ### can_hit -/
def b_can_hit_c1 (ec : Ec) (rec : List D → M D) : Env' → M D :=
  (eAnd (eOp oGe (eVar 6) (eVar 3)) (eCall (rec) (aCons (eVar 0) (aCons (eTup (aStar (eVar 1) (aCons (eVar 6) aNil))) (aCons (eOp oSub (eVar 2) (eC (.int 1))) (aCons (eVar 3) aNil))))))
def b_can_hit (ec : Ec) (rec : List D → M D) : Env' → M Out :=
  (sSeq (sSet 4 (eCall (f_open_lots ec) (aCons (eVar 0) (aCons (eVar 1) aNil))))
  (sSeq (sIf (bV (eOp oEq (eB bLen (aCons (eVar 4) aNil)) (eC (.int 0)))) (sRet (eC (.bl true))) sNx)
  (sSeq (sIf (bV (eOp oEq (eVar 2) (eC (.int 0)))) (sRet (eC (.bl false))) sNx)
  (sSeq (sSet 5 (eOp oIx (eVar 0) (eCall (f_shortest ec) (aCons (eVar 0) (aCons (eVar 4) aNil)))))
  (sRet (eB bAny (aCons (frzM (nLc (iUM (eVar 5)) (tgN 6) bYes (b_can_hit_c1 ec rec) [6])) aNil)))))))
theorem nd_can_hit : (["lots", "taken", "more", "first", "left", "lot", "gap"] : List PySem.Str).Nodup := by decide +kernel
def r_can_hit (ec : Ec) : Nat → List D → M D
  | 0 => fun _ => .fail
  | n + 1 => fnM 4 7 (b_can_hit ec (r_can_hit ec n))
def f_can_hit (ec : Ec) : List D → M D := r_can_hit ec 20
theorem st_can_hit {n : Nat} (F : Df K mg "can_hit" (top 17) ["lots", "taken", "more", "first"] cdv) (B : Bn mg) (C : EcOk P w K mg base ec) (c_open_lots : CalX P w K mg base 1 "open_lots" (SpM T K (f_open_lots ec))) (c_shortest : CalX P w K mg base 5 "shortest" (SpM T K (f_shortest ec))) (c_can_hit : CalX P w K mg base (5 + n) "can_hit" (SpM T K (r_can_hit ec n))) : CalX P w K mg base (5 + n + 1) "can_hit" (SpM T K (r_can_hit ec (n + 1))) := by
  have nd := nd_can_hit
  exact calM (N := ["lots", "taken", "more", "first", "left", "lot", "gap"]) F (by decide +kernel) rfl rfl (fun a A outer s H E hr => ⟨_, (pss_cons (ps_set (i := 4) nd rfl (Or.inl rfl) (pe_cx c_open_lots hr (by omega) rfl (takes_of rfl rfl rfl rfl) (pa_cons (pv 0) (pa_cons (pv 1) pa_nil))))
    (pss_cons (ps_if (pt_cmpR (keqU K hr.units) (pe_callB (klenU K) rfl (by exact B.len) (by decide +kernel) (pa_cons (pv 4) pa_nil)) pe_int (nomark _)) (pss_one (ps_ret pe_bl)) pss_nil)
    (pss_cons (ps_if (pt_cmpR (keqU K hr.units) (pv 2) pe_int (nomark _)) (pss_one (ps_ret pe_bl)) pss_nil)
    (pss_cons (ps_set (i := 5) nd rfl (Or.inl rfl) (pe_ix (kixU K (room65 hr)) (pv 0) (pe_cx c_shortest hr (by omega) rfl (takes_of rfl rfl rfl rfl) (pa_cons (pv 0) (pa_cons (pv 4) pa_nil))) (fun _ _ => rfl)))
    (pss_one (ps_ret (pe_callB (kany K rfl) rfl (by exact B.any) (by decide +kernel) (pa_cons (pe_lc rfl nd (kpi_U K (pv 5)) (blkOk_by (own := [("gap", 6)]) (by rfl)) (fun _ _ _ _ _ => (pg_name (i := 6) nd rfl (Or.inl rfl))) (fun _ _ _ _ _ => pts_nil) (fun _ _ _ _ _ => (pe_and (pe_cmpR op_ge (pv 6) (pv 3) (nomark _)) (pe_one (pe_cx c_can_hit hr (by omega) rfl takesN (pa_cons (pv 0) (pa_cons (pe_tup (kstar K (pv 1) (pa_cons (pv 6) pa_nil))) (pa_cons (pe_op op_sub (pv 2) pe_int) (pa_cons (pv 3) pa_nil))))))))) pa_nil)))))))),
    (show SS T K E _ (b_can_hit ec (r_can_hit ec n)) from (ss_seq (ss_set (se_call (sa_cons se_var (sa_cons se_var sa_nil))))
    (ss_seq (ss_if (sb_test (se_op ok_eq (se_b bf_len (sa_cons se_var sa_nil)) se_int)) (ss_ret se_bl) ss_nx)
    (ss_seq (ss_if (sb_test (se_op ok_eq se_var se_int)) (ss_ret se_bl) ss_nx)
    (ss_seq (ss_set (se_op ok_ix se_var (se_call (sa_cons se_var (sa_cons se_var sa_nil)))))
    (ss_ret (se_b bf_any (sa_cons (se_sn (sn_lc (si_U se_var) sg_name (by decide) sb_yes (se_and (se_op ok_ge se_var se_var) (se_call (sa_cons se_var (sa_cons (se_tup (sa_star se_var (sa_cons se_var sa_nil))) (sa_cons (se_op ok_sub se_var se_int) (sa_cons se_var sa_nil)))))))) sa_nil))))))))⟩)
theorem ok_can_hit (F : Df K mg "can_hit" (top 17) ["lots", "taken", "more", "first"] cdv) (B : Bn mg) (C : EcOk P w K mg base ec) (c_open_lots : CalX P w K mg base 1 "open_lots" (SpM T K (f_open_lots ec))) (c_shortest : CalX P w K mg base 5 "shortest" (SpM T K (f_shortest ec))) : CalX P w K mg base 25 "can_hit" (SpM T K (f_can_hit ec)) := by
  have all : ∀ n : Nat, CalX P w K mg base (5 + n) "can_hit" (SpM T K (r_can_hit ec n)) := fun n => by
    induction n with
    | zero => exact calM_none F
    | succ n ih => exact st_can_hit F B C c_open_lots c_shortest ih
  exact all 20
/-! ### least_of -/
def b_least_of_t1 (ec : Ec) : Env' → M Bool :=
  (bV (eCall (f_can_hit ec) (aCons (eVar 1) (aCons (eTup (aStar (eVar 3) (aCons (eVar 7) aNil))) (aCons (eOp oSub (eOp oSub (eVar 2) (eVar 4)) (eC (.int 1))) (aCons (eOp oAdd (eVar 7) (eC (.int 1))) aNil))))))
def b_least_of_f2 (ec : Ec) : Env' → M Out :=
  (sSeq (sSet 5 (eIf (bV (eOp oGt (eVar 4) (eC (.int 0)))) (eOp oAdd (eOp oIx (eVar 3) (eUn uNeg (eC (.int 1)))) (eC (.int 1))) (eC (.int 0))))
  (sSeq (sSet 6 (frzM (nLc (iRng2 (aCons (eVar 5) (aCons (eVar 0) aNil))) (tgN 7) (b_least_of_t1 ec) (eVar 7) [7])))
  (sSet 3 (eTup (aStar (eVar 3) (aCons (eOp oIx (eVar 6) (eC (.int 0))) aNil))))))
def b_least_of (ec : Ec) : Env' → M Out :=
  (sSeq (sSet 3 (eTup aNil))
  (sSeq (sFor (iRng1 (aCons (eVar 2) aNil)) (tgN 4) (b_least_of_f2 ec))
  (sRet (eVar 3))))
theorem nd_least_of : (["many", "lots", "size", "found", "turn", "first", "some", "gap"] : List PySem.Str).Nodup := by decide +kernel
def f_least_of (ec : Ec) : List D → M D := fnM 3 8 (b_least_of ec)
theorem ok_least_of (F : Df K mg "least_of" (top 18) ["many", "lots", "size"] cdv) (B : Bn mg) (C : EcOk P w K mg base ec) (c_can_hit : CalX P w K mg base 25 "can_hit" (SpM T K (f_can_hit ec))) : CalX P w K mg base (25 + 1) "least_of" (SpM T K (f_least_of ec)) := by
  have nd := nd_least_of
  exact calM (N := ["many", "lots", "size", "found", "turn", "first", "some", "gap"]) F (by decide +kernel) rfl rfl (fun a A outer s H E hr => ⟨_, (pss_cons (ps_set (i := 3) nd rfl (Or.inr rfl) (pe_tup pa_nil))
    (pss_cons (ps_for (passes_of rfl) rfl (pi_range1 rfl (by exact B.range) (pa_cons (pv 2) pa_nil)) (pg_name (i := 4) nd rfl (Or.inr rfl)) (pss_cons (ps_set (i := 5) nd rfl (Or.inl rfl) (pe_ifExp (pt_cmpR op_gt (pv 4) pe_int (nomark _)) (pe_op (kadd K) (pe_ix (kixU K (room65 hr)) (pv 3) (pe_un un_neg pe_int) (fun _ _ => rfl)) pe_int) pe_int))
    (pss_cons (ps_setLc (i := 6) rfl nd rfl rfl (sw_true rfl rfl rfl (by decide +kernel)) (pi_range2 rfl (by exact B.range) (pa_cons (pv 5) (pa_cons (pv 0) pa_nil))) (blkOk_by (own := [("gap", 7)]) (by rfl)) (fun _ _ _ _ _ => (pg_name (i := 7) nd rfl (Or.inl rfl))) (fun _ _ _ _ _ => (pts_one (pt_val (pe_cx c_can_hit hr (by omega) rfl takesN (pa_cons (pv 1) (pa_cons (pe_tup (kstar K (pv 3) (pa_cons (pv 7) pa_nil))) (pa_cons (pe_op op_sub (pe_op op_sub (pv 2) (pv 4)) pe_int) (pa_cons (pe_op (kadd K) (pv 7) pe_int) pa_nil)))))))) (fun _ _ _ _ _ => (pv 7)))
    (pss_one (ps_set (i := 3) nd rfl (Or.inr rfl) (pe_tup (kstar K (pv 3) (pa_cons (pe_ix (kixU K (room65 hr)) (pv 6) pe_int (fun _ _ => rfl)) pa_nil))))))))
    (pss_one (ps_ret (pv 3))))),
    (show SS T K E _ (b_least_of ec) from (ss_seq (ss_set (se_tup sa_nil))
    (ss_seq (ss_for (si_rng1 (sa_cons se_var sa_nil)) sg_name (ss_seq (ss_set (se_if (sb_test (se_op ok_gt se_var se_int)) (se_op ok_add (se_op ok_ix se_var (se_un ok_neg se_int)) se_int) se_int))
    (ss_seq (ss_set (se_sn (sn_lc (si_rng2 (sa_cons se_var (sa_cons se_var sa_nil))) sg_name (by decide) (sb_B (se_call (sa_cons se_var (sa_cons (se_tup (sa_star se_var (sa_cons se_var sa_nil))) (sa_cons (se_op ok_sub (se_op ok_sub se_var se_var) se_int) (sa_cons (se_op ok_add se_var se_int) sa_nil)))))) se_var)))
    (ss_set (se_tup (sa_star se_var (sa_cons (se_op ok_ix se_var se_int) sa_nil)))))))
    (ss_ret se_var))))⟩)
/-! ### least_hits -/
def b_least_hits_t1 (ec : Ec) : Env' → M Bool :=
  (bNot (bV (eCall (f_can_hit ec) (aCons (eVar 1) (aCons (eTup aNil) (aCons (eVar 2) (aCons (eC (.int 0)) aNil)))))))
def b_least_hits_w2 (ec : Ec) : Env' → M Out :=
  (sAug 2 (eC (.int 1)))
def b_least_hits (ec : Ec) : Env' → M Out :=
  (sSeq (sDrop (eCall (f_need_lots ec) (aCons (eVar 0) (aCons (eVar 1) aNil))))
  (sSeq (sIf (bV (eOp oIn (eTup aNil) (eVar 1))) (sRet (eC .non)) sNx)
  (sSeq (sSet 2 (eC (.int 0)))
  (sSeq (sWh 100 (b_least_hits_t1 ec) (b_least_hits_w2 ec))
  (sRet (eCall (f_least_of ec) (aCons (eVar 0) (aCons (eVar 1) (aCons (eVar 2) aNil)))))))))
theorem nd_least_hits : (["many", "lots", "size"] : List PySem.Str).Nodup := by decide +kernel
def f_least_hits (ec : Ec) : List D → M D := fnM 2 3 (b_least_hits ec)
theorem ok_least_hits (F : DfK K mg "least_hits" (top 19) ["many", "lots"] cdv) (B : Bn mg) (C : EcOk P w K mg base ec) (c_need_lots : CalX P w K mg base 3 "need_lots" (SpM T K (f_need_lots ec))) (c_can_hit : CalX P w K mg base 25 "can_hit" (SpM T K (f_can_hit ec))) (c_least_of : CalX P w K mg base 26 "least_of" (SpM T K (f_least_of ec))) : CalXK P w K mg base (26 + 1) "least_hits" ["many", "lots"] (SpM T K (f_least_hits ec)) := by
  have nd := nd_least_hits
  exact calMK (N := ["many", "lots", "size"]) F (by decide +kernel) rfl rfl (fun a A outer s H E hr => ⟨_, (pss_cons (ps_expr (pe_cx c_need_lots hr (by omega) rfl (takes_of rfl rfl rfl rfl) (pa_cons (pv 0) (pa_cons (pv 1) pa_nil))))
    (pss_cons (ps_if (pt_cmpR (kinU K (room65 hr)) (pe_tup pa_nil) (pv 1) (by rfl)) (pss_one (ps_ret pe_non)) pss_nil)
    (pss_cons (ps_set (i := 2) nd rfl (Or.inl rfl) pe_int)
    (pss_cons (ps_while (passes_of rfl) (pt_not (pt_val (pe_cx c_can_hit hr (by omega) rfl (takes_of rfl rfl rfl rfl) (pa_cons (pv 1) (pa_cons (pe_tup pa_nil) (pa_cons (pv 2) (pa_cons pe_int pa_nil))))))) (pss_one (ps_aug (i := 2) nd rfl (Or.inl rfl) pe_int ip_add)))
    (pss_one (ps_ret (pe_cx c_least_of hr (by omega) rfl (takes_of rfl rfl rfl rfl) (pa_cons (pv 0) (pa_cons (pv 1) (pa_cons (pv 2) pa_nil)))))))))),
    (show SS T K E _ (b_least_hits ec) from (ss_seq (ss_drop (se_call (sa_cons se_var (sa_cons se_var sa_nil))))
    (ss_seq (ss_if (sb_test (se_op ok_in (se_tup sa_nil) se_var)) (ss_ret se_non) ss_nx)
    (ss_seq (ss_set se_int)
    (ss_seq (ss_wh 100 (sb_not (sb_B (se_call (sa_cons se_var (sa_cons (se_tup sa_nil) (sa_cons se_var (sa_cons se_int sa_nil))))))) (ss_aug se_int))
    (ss_ret (se_call (sa_cons se_var (sa_cons se_var (sa_cons se_var sa_nil))))))))))⟩)
/-! ### grown: not reached -/
def f_grown (ec : Ec) : List D → M D := fun _ => .fail
theorem ok_grown (F : Df K mg "grown" (top 20) ["lots", "taken", "more"] cdv) : CalX P w K mg base 0 "grown" (SpM T K (f_grown ec)) := calM_none F
/-! ### need_number -/
def b_need_number (ec : Ec) : Env' → M Out :=
  (sIf (bOr (bNot (bV (eCall (f_is_number ec) (aCons (eVar 0) aNil)))) (bNot (bV (eChain oLe oLe (eC (.int 0)) (eVar 0) (eC (.int 16)))))) (sRz ec.BadNumber) sNx)
theorem nd_need_number : (["number"] : List PySem.Str).Nodup := by decide +kernel
def f_need_number (ec : Ec) : List D → M D := fnM 1 1 (b_need_number ec)
theorem ok_need_number (F : Df K mg "need_number" (top 21) ["number"] cdv) (B : Bn mg) (C : EcOk P w K mg base ec) (c_is_number : CalX P w K mg base 1 "is_number" (SpM T K (f_is_number ec))) : CalX P w K mg base (1 + 1) "need_number" (SpM T K (f_need_number ec)) := by
  have nd := nd_need_number
  exact calM (N := ["number"]) F (by decide +kernel) rfl rfl (fun a A outer s H E hr => ⟨_, (pss_one (ps_if (PW.pt (pw_or (pt_not (pt_val (pe_cx c_is_number hr (by omega) rfl (takes_of rfl rfl rfl rfl) (pa_cons (pv 0) pa_nil)))) (pw_or1 (pt_not (pt_chain op_le op_le pe_int (pv 0) (pe_cI rfl (by exact B.cMOST_GAPS))))))) (pss_one (ps_rz C.BadNumber rfl (takes_of rfl rfl rfl rfl) rfl)) pss_nil)),
    (show SS T K E _ (b_need_number ec) from (ss_if (sb_or (sb_not (sb_B (se_call (sa_cons se_var sa_nil)))) (sb_not (sb_test (se_chain ok_le ok_le se_int se_var se_int)))) ss_rz ss_nx))⟩)
/-! ### hit_tree -/
def b_hit_tree (ec : Ec) : Env' → M Out :=
  (sSeq (sDrop (eCall (f_need_lots ec) (aCons (eVar 0) (aCons (eVar 1) aNil))))
  (sSeq (sDrop (eCall (f_need_number ec) (aCons (eVar 2) aNil)))
  (sRet (eIf (bV (eCall (f_can_hit ec) (aCons (eVar 1) (aCons (eTup aNil) (aCons (eVar 2) (aCons (eC (.int 0)) aNil)))))) (eC .non) (eCall (f_grown ec) (aCons (eVar 1) (aCons (eTup aNil) (aCons (eVar 2) aNil))))))))
theorem nd_hit_tree : (["many", "lots", "number"] : List PySem.Str).Nodup := by decide +kernel
def f_hit_tree (ec : Ec) : List D → M D := fnM 3 3 (b_hit_tree ec)
theorem ok_hit_tree (F : Df K mg "hit_tree" (top 22) ["many", "lots", "number"] cdv) (B : Bn mg) (C : EcOk P w K mg base ec) (c_need_lots : CalX P w K mg base 3 "need_lots" (SpM T K (f_need_lots ec))) (c_need_number : CalX P w K mg base 2 "need_number" (SpM T K (f_need_number ec))) (c_can_hit : CalX P w K mg base 25 "can_hit" (SpM T K (f_can_hit ec))) (c_grown : CalX P w K mg base 0 "grown" (SpM T K (f_grown ec))) : CalX P w K mg base (25 + 1) "hit_tree" (SpM T K (f_hit_tree ec)) := by
  have nd := nd_hit_tree
  exact calM (N := ["many", "lots", "number"]) F (by decide +kernel) rfl rfl (fun a A outer s H E hr => ⟨_, (pss_cons (ps_expr (pe_cx c_need_lots hr (by omega) rfl (takes_of rfl rfl rfl rfl) (pa_cons (pv 0) (pa_cons (pv 1) pa_nil))))
    (pss_cons (ps_expr (pe_cx c_need_number hr (by omega) rfl (takes_of rfl rfl rfl rfl) (pa_cons (pv 2) pa_nil)))
    (pss_one (ps_ret (pe_ifExp (pt_val (pe_cx c_can_hit hr (by omega) rfl (takes_of rfl rfl rfl rfl) (pa_cons (pv 1) (pa_cons (pe_tup pa_nil) (pa_cons (pv 2) (pa_cons pe_int pa_nil)))))) pe_non (pe_cx c_grown hr (by omega) rfl (takes_of rfl rfl rfl rfl) (pa_cons (pv 1) (pa_cons (pe_tup pa_nil) (pa_cons (pv 2) pa_nil))))))))),
    (show SS T K E _ (b_hit_tree ec) from (ss_seq (ss_drop (se_call (sa_cons se_var (sa_cons se_var sa_nil))))
    (ss_seq (ss_drop (se_call (sa_cons se_var sa_nil)))
    (ss_ret (se_if (sb_B (se_call (sa_cons se_var (sa_cons (se_tup sa_nil) (sa_cons se_var (sa_cons se_int sa_nil)))))) se_non (se_call (sa_cons se_var (sa_cons (se_tup sa_nil) (sa_cons se_var sa_nil)))))))))⟩)
/-! ### is_grown: not reached -/
def f_is_grown (ec : Ec) : List D → M D := fun _ => .fail
theorem ok_is_grown (F : Df K mg "is_grown" (top 24) ["lots", "taken", "more", "thing"] cdv) : CalX P w K mg base 0 "is_grown" (SpM T K (f_is_grown ec)) := calM_none F
/-! ### is_hit_tree -/
def b_is_hit_tree (ec : Ec) : Env' → M Out :=
  (sSeq (sDrop (eCall (f_need_lots ec) (aCons (eVar 0) (aCons (eVar 1) aNil))))
  (sSeq (sDrop (eCall (f_need_number ec) (aCons (eVar 2) aNil)))
  (sRet (eCall (f_is_grown ec) (aCons (eVar 1) (aCons (eTup aNil) (aCons (eVar 2) (aCons (eVar 3) aNil))))))))
theorem nd_is_hit_tree : (["many", "lots", "number", "thing"] : List PySem.Str).Nodup := by decide +kernel
def f_is_hit_tree (ec : Ec) : List D → M D := fnM 4 4 (b_is_hit_tree ec)
theorem ok_is_hit_tree (F : Df K mg "is_hit_tree" (top 23) ["many", "lots", "number", "thing"] cdv) (B : Bn mg) (C : EcOk P w K mg base ec) (c_need_lots : CalX P w K mg base 3 "need_lots" (SpM T K (f_need_lots ec))) (c_need_number : CalX P w K mg base 2 "need_number" (SpM T K (f_need_number ec))) (c_is_grown : CalX P w K mg base 0 "is_grown" (SpM T K (f_is_grown ec))) : CalX P w K mg base (3 + 1) "is_hit_tree" (SpM T K (f_is_hit_tree ec)) := by
  have nd := nd_is_hit_tree
  exact calM (N := ["many", "lots", "number", "thing"]) F (by decide +kernel) rfl rfl (fun a A outer s H E hr => ⟨_, (pss_cons (ps_expr (pe_cx c_need_lots hr (by omega) rfl (takes_of rfl rfl rfl rfl) (pa_cons (pv 0) (pa_cons (pv 1) pa_nil))))
    (pss_cons (ps_expr (pe_cx c_need_number hr (by omega) rfl (takes_of rfl rfl rfl rfl) (pa_cons (pv 2) pa_nil)))
    (pss_one (ps_ret (pe_cx c_is_grown hr (by omega) rfl (takes_of rfl rfl rfl rfl) (pa_cons (pv 1) (pa_cons (pe_tup pa_nil) (pa_cons (pv 2) (pa_cons (pv 3) pa_nil))))))))),
    (show SS T K E _ (b_is_hit_tree ec) from (ss_seq (ss_drop (se_call (sa_cons se_var (sa_cons se_var sa_nil))))
    (ss_seq (ss_drop (se_call (sa_cons se_var sa_nil)))
    (ss_ret (se_call (sa_cons se_var (sa_cons (se_tup sa_nil) (sa_cons se_var (sa_cons se_var sa_nil)))))))))⟩)
/-! ### _law_pick -/
def b_law_pick (ec : Ec) : Env' → M Out :=
  (sRet (eOp oIx (eVar 1) (eCall drawF (aCons (eVar 0) (aCons (eB bLen (aCons (eVar 1) aNil)) aNil)))))
theorem nd_law_pick : (["_law_state", "_law_several"] : List PySem.Str).Nodup := by decide +kernel
def f_law_pick (ec : Ec) : List D → M D := fnM 2 2 (b_law_pick ec)
theorem ok_law_pick (F : Df K mg "_law_pick" (top 27) ["_law_state", "_law_several"] cdv) (B : Bn mg) (C : EcOk P w K mg base ec) (c_law_draw : Cal P w K mg base 3 "_law_draw" (SpSx T 1 fDraw) []) : CalX P w K mg base (3 + 1) "_law_pick" (SpM T K (f_law_pick ec)) := by
  have nd := nd_law_pick
  exact calM (N := ["_law_state", "_law_several"]) F (by decide +kernel) rfl rfl (fun a A outer s H E hr => ⟨_, (pss_one (ps_ret (pe_ix (kixU K (room65 hr)) (pv 1) (pe_c c_law_draw hr (by omega) rfl (pa_cons (pv 0) (pa_cons (pe_callB (klenU K) rfl (by exact B.len) (by decide +kernel) (pa_cons (pv 1) pa_nil)) pa_nil))) (fun _ _ => rfl)))),
    (show SS T K E _ (b_law_pick ec) from (ss_ret (se_op ok_ix se_var (se_draw (sa_cons se_var (sa_cons (se_b bf_len (sa_cons se_var sa_nil)) sa_nil))))))⟩)
/-! ### _law_drawn_lots -/
def b_law_drawn_lots_t1 (ec : Ec) : Env' → M Bool :=
  (bV (eOp oEq (eCall drawF (aCons (eVar 0) (aCons (eC (.int 3)) aNil))) (eC (.int 0))))
def b_law_drawn_lots_t2 (ec : Ec) : Env' → M Bool :=
  (bOr (bV (eOp oGe (eVar 8) (eVar 4))) (bV (eOp oLe (eVar 8) (eVar 5))))
def b_law_drawn_lots_s3 (ec : Ec) : Env' → M Out :=
  (sSeq (sIf (bV (eOp oEq (eVar 6) (eC (.int 0)))) (sSet 7 (eRg2 dLI (eB bMin (aCons (eVar 4) (aCons (eVar 5) aNil))) (eOp oAdd (eB bMax (aCons (eVar 4) (aCons (eVar 5) aNil))) (eC (.int 1))))) (sIf (bV (eOp oEq (eVar 6) (eC (.int 1)))) (sSet 7 (frzM (nLc (iRng1 (aCons (eVar 1) aNil)) (tgN 8) (b_law_drawn_lots_t2 ec) (eVar 8) [8]))) sNx))
  (sApp 2 (eB bTuple (aCons (eIf (bOr (bV (eOp oNe (eVar 7) (frzM (nLst aNil)))) (bV (eOp oEq (eCall drawF (aCons (eVar 0) (aCons (eC (.int 6)) aNil))) (eC (.int 0))))) (eVar 7) (frzM (nLst (aCons (eVar 4) aNil)))) aNil))))
def b_law_drawn_lots_s4 (ec : Ec) : Env' → M Out :=
  (sSeq (sSet 7 (frzM (nLc (iRng1 (aCons (eVar 1) aNil)) (tgN 8) (b_law_drawn_lots_t1 ec) (eVar 8) [8])))
  (b_law_drawn_lots_s3 ec))
def b_law_drawn_lots_f5 (ec : Ec) : Env' → M Out :=
  (sSeq (sAsg (eTup (aCons (eCall drawF (aCons (eVar 0) (aCons (eVar 1) aNil))) (aCons (eCall drawF (aCons (eVar 0) (aCons (eVar 1) aNil))) (aCons (eCall drawF (aCons (eVar 0) (aCons (eC (.int 4)) aNil))) aNil)))) (tgT ((tgN 4) :: ((tgN 5) :: ((tgN 6) :: [])))))
  (b_law_drawn_lots_s4 ec))
def b_law_drawn_lots_s6 (ec : Ec) : Env' → M Out :=
  (sSeq (sFor (iRng1 (aCons (eCall drawF (aCons (eVar 0) (aCons (eC (.int 8)) aNil))) aNil)) (tgN 3) (b_law_drawn_lots_f5 ec))
  (sFrz 2 (sRet (eVar 2))))
def b_law_drawn_lots (ec : Ec) : Env' → M Out :=
  (sSeq (sSetN 2 (nLst aNil))
  (b_law_drawn_lots_s6 ec))
theorem nd_law_drawn_lots : (["_law_state", "_law_many_here", "_law_found", "_law_turn", "_law_one", "_law_two", "_law_way", "_law_lot", "_law_gap"] : List PySem.Str).Nodup := by decide +kernel
def f_law_drawn_lots (ec : Ec) : List D → M D := fnM 2 9 (b_law_drawn_lots ec)
theorem ok_law_drawn_lots (F : Df K mg "_law_drawn_lots" (top 31) ["_law_state", "_law_many_here"] cdv) (B : Bn mg) (C : EcOk P w K mg base ec) (c_law_draw : Cal P w K mg base 3 "_law_draw" (SpSx T 1 fDraw) []) : CalX P w K mg base (3 + 1) "_law_drawn_lots" (SpM T K (f_law_drawn_lots ec)) := by
  have nd := nd_law_drawn_lots
  exact calM (N := ["_law_state", "_law_many_here", "_law_found", "_law_turn", "_law_one", "_law_two", "_law_way", "_law_lot", "_law_gap"]) F (by decide +kernel) rfl rfl (fun a A outer s H E hr => ⟨_, (pss_cons (ps_set (i := 2) nd rfl (Or.inl rfl) (pe_lst pa_nil))
    (pss_cons (ps_for (passes_of rfl) rfl (pi_range1 rfl (by exact B.range) (pa_cons (pe_c c_law_draw hr (by omega) rfl (pa_cons (pv 0) (pa_cons pe_int pa_nil))) pa_nil)) (pg_name (i := 3) nd rfl (Or.inl rfl)) (pss_cons (ps_asg (pe_tup (pa_cons (pe_c c_law_draw hr (by omega) rfl (pa_cons (pv 0) (pa_cons (pv 1) pa_nil))) (pa_cons (pe_c c_law_draw hr (by omega) rfl (pa_cons (pv 0) (pa_cons (pv 1) pa_nil))) (pa_cons (pe_c c_law_draw hr (by omega) rfl (pa_cons (pv 0) (pa_cons pe_int pa_nil))) pa_nil)))) (pg_tup rfl (pgs_cons (pg_name (i := 4) nd rfl (Or.inr rfl)) (pgs_cons (pg_name (i := 5) nd rfl (Or.inr rfl)) (pgs_cons (pg_name (i := 6) nd rfl (Or.inl rfl)) pgs_nil)))))
    (pss_cons (ps_setLc (i := 7) rfl nd rfl rfl (sw_true rfl rfl rfl (by decide +kernel)) (pi_range1 rfl (by exact B.range) (pa_cons (pv 1) pa_nil)) (blkOk_by (own := [("_law_gap", 8)]) (by rfl)) (fun _ _ _ _ _ => (pg_name (i := 8) nd rfl (Or.inl rfl))) (fun _ _ _ _ _ => (pts_one (pt_cmpR (keqU K hr.units) (pe_c c_law_draw hr (by omega) rfl (pa_cons (pv 0) (pa_cons pe_int pa_nil))) pe_int (nomark _)))) (fun _ _ _ _ _ => (pv 8)))
    (pss_cons (ps_if (pt_cmpR (keqU K hr.units) (pv 6) pe_int (nomark _)) (pss_one (ps_set (i := 7) nd rfl (Or.inl rfl) (pe_listRg rfl rfl (by exact B.list) (prg_2 rfl (by exact B.range) (pe_callB (kminU K rfl) rfl (by exact B.min) (by decide +kernel) (pa_cons (pv 4) (pa_cons (pv 5) pa_nil))) (pe_op (kadd K) (pe_callB (kmaxU K rfl) rfl (by exact B.max) (by decide +kernel) (pa_cons (pv 4) (pa_cons (pv 5) pa_nil))) pe_int))))) (pss_one (ps_if (pt_cmpR (keqU K hr.units) (pv 6) pe_int (nomark _)) (pss_one (ps_setLc (i := 7) rfl nd rfl rfl (sw_true rfl rfl rfl (by decide +kernel)) (pi_range1 rfl (by exact B.range) (pa_cons (pv 1) pa_nil)) (blkOk_by (own := [("_law_gap", 8)]) (by rfl)) (fun _ _ _ _ _ => (pg_name (i := 8) nd rfl (Or.inl rfl))) (fun _ _ _ _ _ => (pts_one (PW.pt (pw_or (pt_cmpR op_ge (pv 8) (pv 4) (nomark _)) (pw_or1 (pt_cmpR op_le (pv 8) (pv 5) (nomark _))))))) (fun _ _ _ _ _ => (pv 8)))) pss_nil)))
    (pss_one (ps_expr (pe_bm PySem.F.plainAttrs_list PySem.F.slot_list_append PySem.F.type_list_append mt_append (pv 2) (pa_cons (pe_callTy (ktuple K) rfl (by exact B.tuple) (by decide +kernel) (pa_cons (pe_ifExp (PW.pt (pw_or (pt_cmpR (kneU K hr.units) (pv 7) (pe_lst pa_nil) (nomark _)) (pw_or1 (pt_cmpR (keqU K hr.units) (pe_c c_law_draw hr (by omega) rfl (pa_cons (pv 0) (pa_cons pe_int pa_nil))) pe_int (nomark _))))) (pv 7) (pe_lst (pa_cons (pv 4) pa_nil))) pa_nil)) pa_nil))))))))
    (pss_one (ps_ret (pv 2))))),
    (show SS T K E _ (b_law_drawn_lots ec) from (ss_seq (ss_setN (sn_lst sa_nil))
    (ss_seq (ss_for (si_rng1 (sa_cons (se_draw (sa_cons se_var (sa_cons se_int sa_nil))) sa_nil)) sg_name (ss_seq (ss_asg (se_tup (sa_cons (se_draw (sa_cons se_var (sa_cons se_var sa_nil))) (sa_cons (se_draw (sa_cons se_var (sa_cons se_var sa_nil))) (sa_cons (se_draw (sa_cons se_var (sa_cons se_int sa_nil))) sa_nil)))) (sg_tup (sgs_cons sg_name (sgs_cons sg_name (sgs_cons sg_name sgs_nil))) rfl))
    (ss_seq (ss_set (se_sn (sn_lc (si_rng1 (sa_cons se_var sa_nil)) sg_name (by decide) (sb_test (se_op ok_eq (se_draw (sa_cons se_var (sa_cons se_int sa_nil))) se_int)) se_var)))
    (ss_seq (ss_if (sb_test (se_op ok_eq se_var se_int)) (ss_set (se_lRg2 (se_b bf_min (sa_cons se_var (sa_cons se_var sa_nil))) (se_op ok_add (se_b bf_max (sa_cons se_var (sa_cons se_var sa_nil))) se_int))) (ss_if (sb_test (se_op ok_eq se_var se_int)) (ss_set (se_sn (sn_lc (si_rng1 (sa_cons se_var sa_nil)) sg_name (by decide) (sb_or (sb_test (se_op ok_ge se_var se_var)) (sb_test (se_op ok_le se_var se_var))) se_var))) ss_nx))
    (kss_app (se_b bf_tuple (sa_cons (se_if (sb_or (sb_test (se_op ok_ne se_var (se_sn (sn_lst sa_nil)))) (sb_test (se_op ok_eq (se_draw (sa_cons se_var (sa_cons se_int sa_nil))) se_int))) se_var (se_sn (sn_lst (sa_cons se_var sa_nil)))) sa_nil)))))))
    (ss_frz 2 (ss_ret se_var)))))⟩)
/-! ### _law_do_hit -/
def b_law_do_hit_t1 (ec : Ec) : Env' → M Bool :=
  (bV (eOp oIn (eVar 3) (eVar 1)))
def b_law_do_hit_t2 (ec : Ec) : Env' → M Bool :=
  (bV (eOp oEq (frzM (nLc (iUM (eVar 2)) (tgN 3) (b_law_do_hit_t1 ec) (eVar 3) [3])) (frzM (nLst aNil))))
def b_law_do_hit (ec : Ec) : Env' → M Out :=
  (sRet (eOp oEq (frzM (nLc (iUM (eVar 0)) (tgN 2) (b_law_do_hit_t2 ec) (eVar 2) [2])) (frzM (nLst aNil))))
theorem nd_law_do_hit : (["_law_lots", "_law_gaps_here", "_law_lot", "_law_gap"] : List PySem.Str).Nodup := by decide +kernel
def f_law_do_hit (ec : Ec) : List D → M D := fnM 2 4 (b_law_do_hit ec)
theorem ok_law_do_hit (F : Df K mg "_law_do_hit" (top 32) ["_law_lots", "_law_gaps_here"] cdv) (B : Bn mg) (C : EcOk P w K mg base ec)  : CalX P w K mg base (0 + 1) "_law_do_hit" (SpM T K (f_law_do_hit ec)) := by
  have nd := nd_law_do_hit
  exact calM (N := ["_law_lots", "_law_gaps_here", "_law_lot", "_law_gap"]) F (by decide +kernel) rfl rfl (fun a A outer s H E hr => ⟨_, (pss_one (ps_ret (pe_cmpR (keqU K hr.units) (pe_lc rfl nd (kpi_U K (pv 0)) (blkOk_by (own := [("_law_lot", 2)]) (by rfl)) (fun _ _ _ _ _ => (pg_name (i := 2) nd rfl (Or.inl rfl))) (fun _ _ _ _ _ => (pts_one (pt_cmpR (keqU K hr.units) (pe_lc rfl nd (kpi_U K (pv 2)) (blkOk_by (own := [("_law_gap", 3)]) (by rfl)) (fun _ _ _ _ _ => (pg_name (i := 3) nd rfl (Or.inl rfl))) (fun _ _ _ _ _ => (pts_one (pt_cmpR (kinU K (room65 hr)) (pv 3) (pv 1) (by rfl)))) (fun _ _ _ _ _ => (pv 3))) (pe_lst pa_nil) (nomark _)))) (fun _ _ _ _ _ => (pv 2))) (pe_lst pa_nil) (nomark _)))),
    (show SS T K E _ (b_law_do_hit ec) from (ss_ret (se_op ok_eq (se_sn (sn_lc (si_U se_var) sg_name (by decide) (sb_test (se_op ok_eq (se_sn (sn_lc (si_U se_var) sg_name (by decide) (sb_test (se_op ok_in se_var se_var)) se_var)) (se_sn (sn_lst sa_nil)))) se_var)) (se_sn (sn_lst sa_nil)))))⟩)
/-! ### _law_all_lots -/
def b_law_all_lots_c1 (ec : Ec) : Env' → M D :=
  (eOp oAdd (eVar 3) (eTup (aCons (eVar 2) aNil)))
def b_law_all_lots_f2 (ec : Ec) : Env' → M Out :=
  (sSet 1 (eOp oAdd (eVar 1) (frzM (nLc (iUM (eVar 1)) (tgN 3) bYes (b_law_all_lots_c1 ec) [3]))))
def b_law_all_lots (ec : Ec) : Env' → M Out :=
  (sSeq (sSet 1 (frzM (nLst (aCons (eTup aNil) aNil))))
  (sSeq (sFor (iRng1 (aCons (eVar 0) aNil)) (tgN 2) (b_law_all_lots_f2 ec))
  (sRet (eSortK lexP (0, []) asP? 3 (eVar 1) (eTup (aCons (eB bLen (aCons (eVar 3) aNil)) (aCons (eVar 3) aNil)))))))
theorem nd_law_all_lots : (["_law_many_here", "_law_found", "_law_gap", "_law_lot"] : List PySem.Str).Nodup := by decide +kernel
def f_law_all_lots (ec : Ec) : List D → M D := fnM 1 4 (b_law_all_lots ec)
theorem ok_law_all_lots (F : Df K mg "_law_all_lots" (top 33) ["_law_many_here"] (.ref c0)) (TB : TabB base mg c0 P0) (hT : (P0, ("_law_all_lots.<locals>.<lambda>" : Str)) ∈ T) (hu1 : ∀ p ∈ T, p.1 = P0 → p.2 = ("_law_all_lots.<locals>.<lambda>" : Str)) (B : Bn mg) (C : EcOk P w K mg base ec)  : CalX P w K mg base (4 + 1) "_law_all_lots" (SpM T K (f_law_all_lots ec)) := by
  have nd := nd_law_all_lots
  exact calM (N := ["_law_many_here", "_law_found", "_law_gap", "_law_lot"]) F (by decide +kernel) rfl rfl (fun a A outer s H E hr => ⟨_, (pss_cons (ps_set (i := 1) nd rfl (Or.inl rfl) (pe_lst (pa_cons (pe_tup pa_nil) pa_nil)))
    (pss_cons (ps_for (passes_of rfl) rfl (pi_range1 rfl (by exact B.range) (pa_cons (pv 0) pa_nil)) (pg_name (i := 2) nd rfl (Or.inr rfl)) (pss_one (ps_set (i := 1) nd rfl (Or.inl rfl) (pe_op (kadd K) (pv 1) (pe_lc rfl nd (kpi_U K (pv 1)) (blkOk_by (own := [("_law_lot", 3)]) (by rfl)) (fun _ _ _ _ _ => (pg_name (i := 3) nd rfl (Or.inl rfl))) (fun _ _ _ _ _ => pts_nil) (fun _ _ _ _ _ => (pe_op (kadd K) (pv 3) (pe_tup (pa_cons (pv 2) pa_nil)))))))))
    (pss_one (ps_ret (pe_sortK (j := 3) (T := T) (k := 1) (keyLt _) keySort_lt rfl rfl (by exact B.sorted) (pv 1) TB rfl hT hu1 (hr.mono (by decide)) (lamS1_by (by rfl)) nd rfl rfl (fun _ _ _ _ _ _ => rfl) (fun _ _ _ _ hr => (pe_tup (pa_cons (pe_callB (klenU K) rfl (by exact B.len) (by decide +kernel) (pa_cons (pv 3) pa_nil)) (pa_cons (pv 3) pa_nil))))))))),
    (show SS T K E _ (b_law_all_lots ec) from (ss_seq (ss_set (se_sn (sn_lst (sa_cons (se_tup sa_nil) sa_nil))))
    (ss_seq (ss_for (si_rng1 (sa_cons se_var sa_nil)) sg_name (ss_set (se_op ok_add se_var (se_sn (sn_lc (si_U se_var) sg_name (by decide) sb_yes (se_op ok_add se_var (se_tup (sa_cons se_var sa_nil))))))))
    (ss_ret (se_sortK (KO := keyLt K) keyD_lt asP_eq se_var (se_tup (sa_cons (se_b bf_len (sa_cons se_var sa_nil)) (sa_cons se_var sa_nil))))))))⟩)
/-! ### _law_bent_lots -/
def b_law_bent_lots_s1 (ec : Ec) : Env' → M Out :=
  (sSeq (sFrz 3 (sIf (bV (eOp oGt (eCall drawF (aCons (eVar 0) (aCons (eC (.int 3)) aNil))) (eC (.int 0)))) (sRet (eTup (aCons (eCall (f_law_pick ec) (aCons (eVar 0) (aCons (frzM (nLst (aCons (eVar 3) (aCons (eB bTuple (aCons (eVar 3) aNil)) aNil)))) aNil))) (aCons (eVar 4) aNil)))) sNx))
  (sRet (eTup (aCons (eCall (f_law_pick ec) (aCons (eVar 0) (aCons (frzM (nLst (aCons (eC .non) (aCons eDic0 (aCons (eC (.int 5)) (aCons (eC (.str "lots")) (aCons (eOp oMul (frzM (nLst (aCons (eTup aNil) aNil))) (eC (.int 401))) aNil))))))) aNil))) (aCons (eC .non) aNil)))))
def b_law_bent_lots_s2 (ec : Ec) : Env' → M Out :=
  (sSeq (sFrz 5 (sStL 3 (eVar 4) (eCall (f_law_pick ec) (aCons (eVar 0) (aCons (eVar 5) aNil)))))
  (b_law_bent_lots_s1 ec))
def b_law_bent_lots_s3 (ec : Ec) : Env' → M Out :=
  (sSeq (sIf (bV (eOp oGt (eVar 1) (eC (.int 1)))) (sApp 5 (eTup (aCons (eC (.int 1)) (aCons (eC (.int 0)) aNil)))) sNx)
  (b_law_bent_lots_s2 ec))
def b_law_bent_lots_s4 (ec : Ec) : Env' → M Out :=
  (sSeq (sSetN 5 (nLst (aCons (eC .non) (aCons (frzM (nLst (aCons (eC (.int 0)) aNil))) (aCons (eTup (aCons (eVar 1) aNil)) (aCons (eTup (aCons (eUn uNeg (eC (.int 1))) aNil)) (aCons (eTup (aCons (eC (.int 0)) (aCons (eC (.int 0)) aNil))) (aCons (eTup (aCons (eC (.bl true)) aNil)) (aCons (eTup (aCons (eC (.str "0")) aNil)) (aCons (eC (.int 0)) (aCons eDic0 (aCons (eC (.str "0")) aNil))))))))))))
  (b_law_bent_lots_s3 ec))
def b_law_bent_lots (ec : Ec) : Env' → M Out :=
  (sSeq (sParN 3 4 (nList (eVar 2)) (eCall drawF (aCons (eVar 0) (aCons (eB bLen (aCons (eVar 2) aNil)) aNil))))
  (b_law_bent_lots_s4 ec))
theorem nd_law_bent_lots : (["_law_state", "_law_many_here", "_law_lots", "_law_found", "_law_spot", "_law_some"] : List PySem.Str).Nodup := by decide +kernel
def f_law_bent_lots (ec : Ec) : List D → M D := fnM 3 6 (b_law_bent_lots ec)
theorem ok_law_bent_lots (F : Df K mg "_law_bent_lots" (top 34) ["_law_state", "_law_many_here", "_law_lots"] cdv) (B : Bn mg) (C : EcOk P w K mg base ec) (c_law_draw : Cal P w K mg base 3 "_law_draw" (SpSx T 1 fDraw) []) (c_law_pick : CalX P w K mg base 4 "_law_pick" (SpM T K (f_law_pick ec))) : CalX P w K mg base (4 + 1) "_law_bent_lots" (SpM T K (f_law_bent_lots ec)) := by
  have nd := nd_law_bent_lots
  exact calM (N := ["_law_state", "_law_many_here", "_law_lots", "_law_found", "_law_spot", "_law_some"]) F (by decide +kernel) rfl rfl (fun a A outer s H E hr => ⟨_, (pss_cons (ps_par (i := 3) (j := 4) rfl nd rfl rfl (by decide) rfl rfl (pa_cons (pe_callTy (klist K) rfl (by exact B.list) (by decide +kernel) (pa_cons (pv 2) pa_nil)) (pa_cons (pe_c c_law_draw hr (by omega) rfl (pa_cons (pv 0) (pa_cons (pe_callB (klenU K) rfl (by exact B.len) (by decide +kernel) (pa_cons (pv 2) pa_nil)) pa_nil))) pa_nil)) (by rfl))
    (pss_cons (ps_set (i := 5) nd rfl (Or.inl rfl) (pe_lst (pa_cons pe_non (pa_cons (pe_lst (pa_cons pe_int pa_nil)) (pa_cons (pe_tup (pa_cons (pv 1) pa_nil)) (pa_cons (pe_tup (pa_cons (pe_un un_neg pe_int) pa_nil)) (pa_cons (pe_tup (pa_cons pe_int (pa_cons pe_int pa_nil))) (pa_cons (pe_tup (pa_cons pe_bl pa_nil)) (pa_cons (pe_tup (pa_cons pe_str pa_nil)) (pa_cons pe_int (pa_cons (pe_frz pe_dnewK) (pa_cons pe_str pa_nil))))))))))))
    (pss_cons (ps_if (pt_cmpR op_gt (pv 1) pe_int (nomark _)) (pss_one (ps_expr (pe_bm PySem.F.plainAttrs_list PySem.F.slot_list_append PySem.F.type_list_append mt_append (pv 5) (pa_cons (pe_tup (pa_cons pe_int (pa_cons pe_int pa_nil))) pa_nil)))) pss_nil)
    (pss_cons (ps_asg (pe_cx c_law_pick hr (by omega) rfl (takes_of rfl rfl rfl rfl) (pa_cons (pv 0) (pa_cons (pv 5) pa_nil))) (pg_sub (pv 3) (pv 4) set_list))
    (pss_cons (ps_if (pt_cmpR op_gt (pe_c c_law_draw hr (by omega) rfl (pa_cons (pv 0) (pa_cons pe_int pa_nil))) pe_int (nomark _)) (pss_one (ps_ret (pe_tup (pa_cons (pe_cx c_law_pick hr (by omega) rfl (takes_of rfl rfl rfl rfl) (pa_cons (pv 0) (pa_cons (pe_lst (pa_cons (pv 3) (pa_cons (pe_callTy (ktuple K) rfl (by exact B.tuple) (by decide +kernel) (pa_cons (pv 3) pa_nil)) pa_nil))) pa_nil))) (pa_cons (pv 4) pa_nil))))) pss_nil)
    (pss_one (ps_ret (pe_tup (pa_cons (pe_cx c_law_pick hr (by omega) rfl (takes_of rfl rfl rfl rfl) (pa_cons (pv 0) (pa_cons (pe_lst (pa_cons pe_non (pa_cons (pe_frz pe_dnewK) (pa_cons pe_int (pa_cons pe_str (pa_cons (pe_op op_mulU (pe_lst (pa_cons (pe_tup pa_nil) pa_nil)) pe_int) pa_nil)))))) pa_nil))) (pa_cons pe_non pa_nil)))))))))),
    (show SS T K E _ (b_law_bent_lots ec) from (ss_seq (ss_parN (by decide) (sn_list se_var) (se_draw (sa_cons se_var (sa_cons (se_b bf_len (sa_cons se_var sa_nil)) sa_nil))))
    (ss_seq (ss_setN (sn_lst (sa_cons se_non (sa_cons (se_sn (sn_lst (sa_cons se_int sa_nil))) (sa_cons (se_tup (sa_cons se_var sa_nil)) (sa_cons (se_tup (sa_cons (se_un ok_neg se_int) sa_nil)) (sa_cons (se_tup (sa_cons se_int (sa_cons se_int sa_nil))) (sa_cons (se_tup (sa_cons se_bl sa_nil)) (sa_cons (se_tup (sa_cons se_str sa_nil)) (sa_cons se_int (sa_cons se_dic0 (sa_cons se_str sa_nil))))))))))))
    (ss_seq (ss_if (sb_test (se_op ok_gt se_var se_int)) (kss_app (se_tup (sa_cons se_int (sa_cons se_int sa_nil)))) ss_nx)
    (ss_seq (ss_frz 5 (ss_stL se_var (se_call (sa_cons se_var (sa_cons se_var sa_nil)))))
    (ss_seq (ss_frz 3 (ss_if (sb_test (se_op ok_gt (se_draw (sa_cons se_var (sa_cons se_int sa_nil))) se_int)) (ss_ret (se_tup (sa_cons (se_call (sa_cons se_var (sa_cons (se_sn (sn_lst (sa_cons se_var (sa_cons (se_b bf_tuple (sa_cons se_var sa_nil)) sa_nil)))) sa_nil))) (sa_cons se_var sa_nil)))) ss_nx))
    (ss_ret (se_tup (sa_cons (se_call (sa_cons se_var (sa_cons (se_sn (sn_lst (sa_cons se_non (sa_cons se_dic0 (sa_cons se_int (sa_cons se_str (sa_cons (se_op ok_mul (se_sn (sn_lst (sa_cons (se_tup sa_nil) sa_nil))) se_int) sa_nil))))))) sa_nil))) (sa_cons se_non sa_nil))))))))))⟩)
/-! ### law -/
def b_law_f1 (ec : Ec) : Env' → M Out :=
  (sIf (bAnd (bV (eOp oIsN (eVar 6) (eC .non))) (bV (eCall (f_law_do_hit ec) (aCons (eVar 4) (aCons (eVar 7) aNil))))) (sSet 6 (eVar 7)) sNx)
def b_law_t2 (ec : Ec) : Env' → M Bool :=
  (bOr (bNot (bV (eB (bIsi [ec.BadLots, ec.BadMany]) (aCons (eVar 11) (aCons (eC (.raw (.ref ec.BadLots))) aNil))))) (bV (eOp oNe (eB bRepr (aCons (eFld [ec.BadLots] "at" (eVar 11)) aNil)) (eB bRepr (aCons (eVar 9) aNil)))))
def b_law_c3 (ec : Ec) : Env' → M D :=
  (eC (.int 1))
def b_law_t4 (ec : Ec) : Env' → M Bool :=
  (bNot (bV (eB (bIsi [ec.BadLots, ec.BadMany]) (aCons (eVar 11) (aCons (eC (.raw (.ref ec.BadMany))) aNil)))))
def b_law_c5 (ec : Ec) : Env' → M D :=
  (eC (.int 1))
def b_law_s6 (ec : Ec) : Env' → M Out :=
  (sSeq (sApp 10 (eCau [ec.BadLots, ec.BadMany, ec.BadNumber] (eCall (f_is_hit_tree ec) (aCons (eVar 12) (aCons (eVar 8) (aCons (eC .non) (aCons (eC .non) aNil)))))))
  (sFrz 10 (sIf (bOr (bV (eOp oNe (frzM (nLc (iUM (eVar 10)) (tgN 11) (b_law_t4 ec) (b_law_c5 ec) [11])) (frzM (nLst aNil)))) (bV (eOp oNe (eB bRepr (aCons (eVar 4) aNil)) (eVar 5)))) (sRet (eC (.bl false))) sNx)))
def b_law_s7 (ec : Ec) : Env' → M Out :=
  (sSeq (sApp 10 (eCau [ec.BadLots, ec.BadMany, ec.BadNumber] (eCall (f_hit_tree ec) (aCons (eVar 12) (aCons (eVar 8) (aCons (eC .non) aNil))))))
  (b_law_s6 ec))
def b_law_s8 (ec : Ec) : Env' → M Out :=
  (sSeq (sSetN 10 (nLst (aCons (eCau [ec.BadLots, ec.BadMany, ec.BadNumber] (eCall (f_least_hits ec) (aCons (eVar 12) (aCons (eVar 8) aNil)))) aNil)))
  (b_law_s7 ec))
def b_law_s9 (ec : Ec) : Env' → M Out :=
  (sSeq (sSet 12 (eCall (f_law_pick ec) (aCons (eVar 1) (aCons (frzM (nLst (aCons (eC .non) (aCons (eC (.int 0)) (aCons (eC (.int 17)) (aCons (eC (.bl true)) (aCons (eC (.str "4")) (aCons (eUn uNeg (eC (.int 1))) (aCons (eTup (aCons (eC (.int 4)) aNil)) aNil))))))))) aNil))))
  (b_law_s8 ec))
def b_law_s10 (ec : Ec) : Env' → M Out :=
  (sSeq (sFrz 10 (sIf (bV (eOp oNe (frzM (nLc (iUM (eVar 10)) (tgN 11) (b_law_t2 ec) (b_law_c3 ec) [11])) (frzM (nLst aNil)))) (sRet (eC (.bl false))) sNx))
  (b_law_s9 ec))
def b_law_s11 (ec : Ec) : Env' → M Out :=
  (sSeq (sApp 10 (eCau [ec.BadLots, ec.BadMany, ec.BadNumber] (eCall (f_is_hit_tree ec) (aCons (eVar 3) (aCons (eVar 8) (aCons (eC .non) (aCons (eC .non) aNil)))))))
  (b_law_s10 ec))
def b_law_s12 (ec : Ec) : Env' → M Out :=
  (sSeq (sApp 10 (eCau [ec.BadLots, ec.BadMany, ec.BadNumber] (eCall (f_hit_tree ec) (aCons (eVar 3) (aCons (eVar 8) (aCons (eC .non) aNil))))))
  (b_law_s11 ec))
def b_law_s13 (ec : Ec) : Env' → M Out :=
  (sSeq (sSetN 10 (nLst (aCons (eCau [ec.BadLots, ec.BadMany, ec.BadNumber] (eCall (f_least_hits ec) (aCons (eVar 3) (aCons (eVar 8) aNil)))) aNil)))
  (b_law_s12 ec))
def b_law_s14 (ec : Ec) : Env' → M Out :=
  (sSeq (sAsg (eCall (f_law_bent_lots ec) (aCons (eVar 1) (aCons (eVar 3) (aCons (eOp oAdd (eVar 4) (frzM (nLst (aCons (eTup (aCons (eC (.int 0)) aNil)) aNil)))) aNil)))) (tgT ((tgN 8) :: ((tgN 9) :: []))))
  (b_law_s13 ec))
def b_law_s15 (ec : Ec) : Env' → M Out :=
  (sSeq (sIf (bV (eOp oNe (eOp oIsN (eVar 6) (eC .non)) (eOp oIn (eTup aNil) (eVar 4)))) (sRet (eC (.bl false))) sNx)
  (b_law_s14 ec))
def b_law_s16 (ec : Ec) : Env' → M Out :=
  (sSeq (sIf (bV (eOp oNe (eB bRepr (aCons (frzM (nLst (aCons (eCall (f_least_hits ec) (aCons (eVar 3) (aCons (eVar 4) aNil))) (aCons (eCallR 2 (f_least_hits ec) (aCons (eB bTuple (aCons (eVar 4) aNil)) (aCons (eVar 3) aNil))) aNil)))) aNil)) (eB bRepr (aCons (frzM (nLst (aCons (eVar 6) (aCons (eVar 6) aNil)))) aNil)))) (sRet (eC (.bl false))) sNx)
  (b_law_s15 ec))
def b_law_s17 (ec : Ec) : Env' → M Out :=
  (sSeq (sFor (iUM (eCall (f_law_all_lots ec) (aCons (eVar 3) aNil))) (tgN 7) (b_law_f1 ec))
  (b_law_s16 ec))
def b_law_s18 (ec : Ec) : Env' → M Out :=
  (sSeq (sPar 5 6 (aCons (eB bRepr (aCons (eVar 4) aNil)) (aCons (eC .non) aNil)))
  (b_law_s17 ec))
def b_law_s19 (ec : Ec) : Env' → M Out :=
  (sSeq (sSet 4 (eCall (f_law_drawn_lots ec) (aCons (eVar 1) (aCons (eVar 3) aNil))))
  (b_law_s18 ec))
def b_law_f20 (ec : Ec) : Env' → M Out :=
  (sSeq (sSet 3 (eOp oAdd (eC (.int 1)) (eCall drawF (aCons (eVar 1) (aCons (eC (.int 8)) aNil)))))
  (b_law_s19 ec))
def b_law_c21 (ec : Ec) : Env' → M D :=
  (eTup (aCons (eVar 9) aNil))
def b_law_s22 (ec : Ec) : Env' → M Out :=
  (sSeq (sIf (bOr (bV (eOp oNe (eCall (f_least_hits ec) (aCons (eC (.int 16)) (aCons (frzM (nLst (aCons (eTup (aCons (eC (.int 0)) (aCons (eC (.int 15)) aNil))) (aCons (eTup (aCons (eC (.int 3)) aNil)) (aCons (eTup (aCons (eC (.int 3)) (aCons (eC (.int 4)) aNil))) aNil))))) aNil))) (eTup (aCons (eC (.int 0)) (aCons (eC (.int 3)) aNil))))) (bV (eOp oNe (eCall (f_least_hits ec) (aCons (eC (.int 1)) (aCons (frzM (nLst aNil)) aNil))) (eTup aNil)))) (sRet (eC (.bl false))) sNx)
  (sRet (eOp oEq (eCall (f_least_hits ec) (aCons (eC (.int 16)) (aCons (frzM (nLc (iRng1 (aCons (eC (.int 16)) aNil)) (tgN 9) bYes (b_law_c21 ec) [9])) aNil))) (eRg1 dI (eC (.int 16))))))
def b_law (ec : Ec) : Env' → M Out :=
  (sSeq (sFor (iRng1 (aCons (eOp oAdd (eC (.int 2)) (eB bMin (aCons (eB bLen (aCons (eVar 0) aNil)) (aCons (eC (.int 6)) aNil)))) aNil)) (tgN 2) (b_law_f20 ec))
  (b_law_s22 ec))
theorem nd_law : (["_law_script", "_law_state", "_law_turn", "_law_many_here", "_law_lots", "_law_shown", "_law_due", "_law_lot", "_law_odd", "_law_spot", "_law_several", "_law_error", "_law_wrong"] : List PySem.Str).Nodup := by decide +kernel
theorem ok_law (F : Df K mg "law" (top 35) ["_law_script"] (.ref c0)) (TB : TabB base mg c0 P0) (hT : (P0, ("law.<locals>.<lambda>" : Str)) ∈ T) (hu1 : ∀ p ∈ T, p.1 = P0 → p.2 = ("law.<locals>.<lambda>" : Str)) (B : Bn mg) (C : EcOk P w K mg base ec) (Fc : Df K mg "_law_caught" (top 28) ["_law_work"] cdc) (c_law_begun : Cal P w K mg base 2 "_law_begun" (SpBegunX T K) []) (c_law_draw : Cal P w K mg base 3 "_law_draw" (SpSx T 1 fDraw) []) (c_law_drawn_lots : CalX P w K mg base 4 "_law_drawn_lots" (SpM T K (f_law_drawn_lots ec))) (c_law_all_lots : CalX P w K mg base 5 "_law_all_lots" (SpM T K (f_law_all_lots ec))) (c_law_do_hit : CalX P w K mg base 1 "_law_do_hit" (SpM T K (f_law_do_hit ec))) (c_least_hits : CalXK P w K mg base 27 "least_hits" ["many", "lots"] (SpM T K (f_least_hits ec))) (c_law_bent_lots : CalX P w K mg base 5 "_law_bent_lots" (SpM T K (f_law_bent_lots ec))) (c_hit_tree : CalX P w K mg base 26 "hit_tree" (SpM T K (f_hit_tree ec))) (c_is_hit_tree : CalX P w K mg base 4 "is_hit_tree" (SpM T K (f_is_hit_tree ec))) (c_law_pick : CalX P w K mg base 4 "_law_pick" (SpM T K (f_law_pick ec)))
    (hg : ∀ (sa : Addr) (ns : List Int) (Pm : Prop) (S lw lc : Addr) (cells : List Int), ns.length ≤ 63 → wpM (.dr sa ns Pm S lw lc cells) (b_law ec ((env0 [.raw (.ref sa)] 12).set 1 (.dat (.raw (.ref S))))) 0 (fun o _ => o = .rt (.bl true)) fun _ _ _ => False) : RunG P w K mg base (32 + 1) "law" ["_law_script"] (SpLaw T K) := by
  have nd := nd_law
  exact runG_of (N := ["_law_script", "_law_state", "_law_turn", "_law_many_here", "_law_lots", "_law_shown", "_law_due", "_law_lot", "_law_odd", "_law_spot", "_law_several", "_law_error", "_law_wrong"]) F (by decide +kernel) (fun a A outer s H E hr hgd => ⟨_, (pss_cons (ps_set (i := 1) nd rfl (Or.inl rfl) (pe_c c_law_begun hr (by omega) rfl (pa_cons (pv 0) pa_nil)))
    (pss_cons (ps_for PassesOwn.never rfl (pi_range1 rfl (by exact B.range) (pa_cons (pe_op (kadd K) pe_int (pe_callB (kminU K rfl) rfl (by exact B.min) (by decide +kernel) (pa_cons (pe_callB (klenU K) rfl (by exact B.len) (by decide +kernel) (pa_cons (pv 0) pa_nil)) (pa_cons pe_int pa_nil)))) pa_nil)) (pg_name (i := 2) nd rfl (Or.inl rfl)) (pss_cons (ps_set (i := 3) nd rfl (Or.inr rfl) (pe_op (kadd K) pe_int (pe_c c_law_draw hr (by omega) rfl (pa_cons (pv 1) (pa_cons pe_int pa_nil)))))
    (pss_cons (ps_set (i := 4) nd rfl (Or.inl rfl) (pe_cx c_law_drawn_lots hr (by omega) rfl takesN (pa_cons (pv 1) (pa_cons (pv 3) pa_nil))))
    (pss_cons (ps_par (i := 5) (j := 6) rfl nd rfl rfl (by decide) rfl rfl (pa_cons (pe_callB (kreprA K hgd (room65 hr)) rfl (by exact B.repr) (by decide +kernel) (pa_cons (pv 4) pa_nil)) (pa_cons pe_non pa_nil)) (by rfl))
    (pss_cons (ps_for PassesOwn.never rfl (kpi_U K (pe_cx c_law_all_lots hr (by omega) rfl takesN (pa_cons (pv 3) pa_nil))) (pg_name (i := 7) nd rfl (Or.inl rfl)) (pss_one (ps_if (PW.pt (pw_and (pt_cmpR op_isN (pv 6) pe_non (nomark _)) (pw_and1 (pt_val (pe_cx c_law_do_hit hr (by omega) rfl takesN (pa_cons (pv 4) (pa_cons (pv 7) pa_nil))))))) (pss_one (ps_set (i := 6) nd rfl (Or.inl rfl) (pv 7))) pss_nil)))
    (pss_cons (ps_if (pt_cmpR (kneU K hr.units) (pe_callB (kreprA K hgd (room65 hr)) rfl (by exact B.repr) (by decide +kernel) (pa_cons (pe_lst (pa_cons (pe_cx c_least_hits.x hr (by omega) rfl takesN (pa_cons (pv 3) (pa_cons (pv 4) pa_nil))) (pa_cons (pe_cxk c_least_hits hr (by omega) rfl takesN (pk_cons (pe_callTy (ktuple K) rfl (by exact B.tuple) (by decide +kernel) (pa_cons (pv 4) pa_nil)) (pk_cons (pv 3) pk_nil))) pa_nil))) pa_nil)) (pe_callB (kreprA K hgd (room65 hr)) rfl (by exact B.repr) (by decide +kernel) (pa_cons (pe_lst (pa_cons (pv 6) (pa_cons (pv 6) pa_nil))) pa_nil)) (nomark _)) (pss_one (ps_ret pe_bl)) pss_nil)
    (pss_cons (ps_if (pt_cmpR (kneU K hr.units) (pe_cmpR op_isN (pv 6) pe_non (nomark _)) (pe_cmpR (kinU K (room65 hr)) (pe_tup pa_nil) (pv 4) (by rfl)) (nomark _)) (pss_one (ps_ret pe_bl)) pss_nil)
    (pss_cons (ps_asg (pe_cx c_law_bent_lots hr (by omega) rfl takesN (pa_cons (pv 1) (pa_cons (pv 3) (pa_cons (pe_op (kadd K) (pv 4) (pe_lst (pa_cons (pe_tup (pa_cons pe_int pa_nil)) pa_nil))) pa_nil)))) (pg_tup rfl (pgs_cons (pg_name (i := 8) nd rfl (Or.inr rfl)) (pgs_cons (pg_name (i := 9) nd rfl (Or.inr rfl)) pgs_nil))))
    (pss_cons (ps_set (i := 10) nd rfl (Or.inl rfl) (pe_lst (pa_cons (pe_cau (k := 30) (T := T) Fc (by decide +kernel) (by rfl) (by exact .inl rfl) (fun g => cau_gives1 rfl C.LaneError.mgC (by decide) rfl (by decide +kernel) rfl) rfl TB rfl hT hu1 (hr.mono (by omega)) (lamS_by (by rfl)) rfl (fun _ _ _ _ _ => rfl) (fun _ _ _ _ E _ _ hr => (pe_cx c_least_hits.x hr (by omega) rfl (takes_of rfl rfl rfl rfl) (pa_cons (pv 3) (pa_cons (pv 8) pa_nil))))) pa_nil)))
    (pss_cons (ps_expr (pe_bm PySem.F.plainAttrs_list PySem.F.slot_list_append PySem.F.type_list_append mt_append (pv 10) (pa_cons (pe_cau (k := 30) (T := T) Fc (by decide +kernel) (by rfl) (by exact .inl rfl) (fun g => cau_gives1 rfl C.LaneError.mgC (by decide) rfl (by decide +kernel) rfl) rfl TB rfl hT hu1 (hr.mono (by omega)) (lamS_by (by rfl)) rfl (fun _ _ _ _ _ => rfl) (fun _ _ _ _ E _ _ hr => (pe_cx c_hit_tree hr (by omega) rfl (takes_of rfl rfl rfl rfl) (pa_cons (pv 3) (pa_cons (pv 8) (pa_cons pe_non pa_nil)))))) pa_nil)))
    (pss_cons (ps_expr (pe_bm PySem.F.plainAttrs_list PySem.F.slot_list_append PySem.F.type_list_append mt_append (pv 10) (pa_cons (pe_cau (k := 30) (T := T) Fc (by decide +kernel) (by rfl) (by exact .inl rfl) (fun g => cau_gives1 rfl C.LaneError.mgC (by decide) rfl (by decide +kernel) rfl) rfl TB rfl hT hu1 (hr.mono (by omega)) (lamS_by (by rfl)) rfl (fun _ _ _ _ _ => rfl) (fun _ _ _ _ E _ _ hr => (pe_cx c_is_hit_tree hr (by omega) rfl (takes_of rfl rfl rfl rfl) (pa_cons (pv 3) (pa_cons (pv 8) (pa_cons pe_non (pa_cons pe_non pa_nil))))))) pa_nil)))
    (pss_cons (ps_if (pt_cmpR (kneU K hr.units) (pe_lc rfl nd (kpi_U K (pv 10)) (blkOk_by (own := [("_law_error", 11)]) (by rfl)) (fun _ _ _ _ _ => (pg_name (i := 11) nd rfl (Or.inl rfl))) (fun _ _ _ _ _ => (pts_one (PW.pt (pw_or (pt_not (pt_val (pe_callB (kisA K) rfl (by exact B.isinstance) (by decide +kernel) (pa_cons (pv 11) (pa_cons (pe_glob (v := .ref ec.BadLots) rfl C.BadLots.mgC rfl) pa_nil))))) (pw_or1 (pt_cmpR (kneU K hr.units) (pe_callB (kreprA K hgd (room65 hr)) rfl (by exact B.repr) (by decide +kernel) (pa_cons (kpe_fld K (pv 11)) pa_nil)) (pe_callB (kreprA K hgd (room65 hr)) rfl (by exact B.repr) (by decide +kernel) (pa_cons (pv 9) pa_nil)) (nomark _))))))) (fun _ _ _ _ _ => pe_int)) (pe_lst pa_nil) (nomark _)) (pss_one (ps_ret pe_bl)) pss_nil)
    (pss_cons (ps_set (i := 12) nd rfl (Or.inr rfl) (pe_cx c_law_pick hr (by omega) rfl takesN (pa_cons (pv 1) (pa_cons (pe_lst (pa_cons pe_non (pa_cons pe_int (pa_cons pe_int (pa_cons pe_bl (pa_cons pe_str (pa_cons (pe_un un_neg pe_int) (pa_cons (pe_tup (pa_cons pe_int pa_nil)) pa_nil)))))))) pa_nil))))
    (pss_cons (ps_set (i := 10) nd rfl (Or.inl rfl) (pe_lst (pa_cons (pe_cau (k := 30) (T := T) Fc (by decide +kernel) (by rfl) (by exact .inl rfl) (fun g => cau_gives1 rfl C.LaneError.mgC (by decide) rfl (by decide +kernel) rfl) rfl TB rfl hT hu1 (hr.mono (by omega)) (lamS_by (by rfl)) rfl (fun _ _ _ _ _ => rfl) (fun _ _ _ _ E _ _ hr => (pe_cx c_least_hits.x hr (by omega) rfl (takes_of rfl rfl rfl rfl) (pa_cons (pv 12) (pa_cons (pv 8) pa_nil))))) pa_nil)))
    (pss_cons (ps_expr (pe_bm PySem.F.plainAttrs_list PySem.F.slot_list_append PySem.F.type_list_append mt_append (pv 10) (pa_cons (pe_cau (k := 30) (T := T) Fc (by decide +kernel) (by rfl) (by exact .inl rfl) (fun g => cau_gives1 rfl C.LaneError.mgC (by decide) rfl (by decide +kernel) rfl) rfl TB rfl hT hu1 (hr.mono (by omega)) (lamS_by (by rfl)) rfl (fun _ _ _ _ _ => rfl) (fun _ _ _ _ E _ _ hr => (pe_cx c_hit_tree hr (by omega) rfl (takes_of rfl rfl rfl rfl) (pa_cons (pv 12) (pa_cons (pv 8) (pa_cons pe_non pa_nil)))))) pa_nil)))
    (pss_cons (ps_expr (pe_bm PySem.F.plainAttrs_list PySem.F.slot_list_append PySem.F.type_list_append mt_append (pv 10) (pa_cons (pe_cau (k := 30) (T := T) Fc (by decide +kernel) (by rfl) (by exact .inl rfl) (fun g => cau_gives1 rfl C.LaneError.mgC (by decide) rfl (by decide +kernel) rfl) rfl TB rfl hT hu1 (hr.mono (by omega)) (lamS_by (by rfl)) rfl (fun _ _ _ _ _ => rfl) (fun _ _ _ _ E _ _ hr => (pe_cx c_is_hit_tree hr (by omega) rfl (takes_of rfl rfl rfl rfl) (pa_cons (pv 12) (pa_cons (pv 8) (pa_cons pe_non (pa_cons pe_non pa_nil))))))) pa_nil)))
    (pss_one (ps_if (PW.pt (pw_or (pt_cmpR (kneU K hr.units) (pe_lc rfl nd (kpi_U K (pv 10)) (blkOk_by (own := [("_law_error", 11)]) (by rfl)) (fun _ _ _ _ _ => (pg_name (i := 11) nd rfl (Or.inl rfl))) (fun _ _ _ _ _ => (pts_one (pt_not (pt_val (pe_callB (kisA K) rfl (by exact B.isinstance) (by decide +kernel) (pa_cons (pv 11) (pa_cons (pe_glob (v := .ref ec.BadMany) rfl C.BadMany.mgC rfl) pa_nil))))))) (fun _ _ _ _ _ => pe_int)) (pe_lst pa_nil) (nomark _)) (pw_or1 (pt_cmpR (kneU K hr.units) (pe_callB (kreprA K hgd (room65 hr)) rfl (by exact B.repr) (by decide +kernel) (pa_cons (pv 4) pa_nil)) (pv 5) (nomark _))))) (pss_one (ps_ret pe_bl)) pss_nil))))))))))))))))))
    (pss_cons (ps_if (PW.pt (pw_or (pt_cmpR (kneU K hr.units) (pe_cx c_least_hits.x hr (by omega) rfl takesN (pa_cons pe_int (pa_cons (pe_lst (pa_cons (pe_tup (pa_cons pe_int (pa_cons pe_int pa_nil))) (pa_cons (pe_tup (pa_cons pe_int pa_nil)) (pa_cons (pe_tup (pa_cons pe_int (pa_cons pe_int pa_nil))) pa_nil)))) pa_nil))) (pe_tup (pa_cons pe_int (pa_cons pe_int pa_nil))) (nomark _)) (pw_or1 (pt_cmpR (kneU K hr.units) (pe_cx c_least_hits.x hr (by omega) rfl takesN (pa_cons pe_int (pa_cons (pe_lst pa_nil) pa_nil))) (pe_tup pa_nil) (nomark _))))) (pss_one (ps_ret pe_bl)) pss_nil)
    (pss_one (ps_ret (pe_cmpR (keqU K hr.units) (pe_cx c_least_hits.x hr (by omega) rfl takesN (pa_cons pe_int (pa_cons (pe_lc rfl nd (pi_range1 rfl (by exact B.range) (pa_cons pe_int pa_nil)) (blkOk_by (own := [("_law_spot", 9)]) (by rfl)) (fun _ _ _ _ _ => (pg_name (i := 9) nd rfl (Or.inl rfl))) (fun _ _ _ _ _ => pts_nil) (fun _ _ _ _ _ => (pe_tup (pa_cons (pv 9) pa_nil)))) pa_nil))) (pe_tupRg rfl rfl (by exact B.tuple) (prg_1 rfl (by exact B.range) pe_int)) (nomark _))))))), fun vs Q h => law_run (g := b_law ec) (by decide) (show SS T K XF _ (b_law ec) from
    (ss_seq (ss_for (si_rng1 (sa_cons (se_op ok_add se_int (se_b bf_min (sa_cons (se_b bf_len (sa_cons se_var sa_nil)) (sa_cons se_int sa_nil)))) sa_nil)) sg_name (ss_seq (ss_set (se_op ok_add se_int (se_draw (sa_cons se_var (sa_cons se_int sa_nil)))))
    (ss_seq (ss_set (se_call (sa_cons se_var (sa_cons se_var sa_nil))))
    (ss_seq (ss_par (sa_cons (se_b bf_repr (sa_cons se_var sa_nil)) (sa_cons se_non sa_nil)))
    (ss_seq (ss_for (si_U (se_call (sa_cons se_var sa_nil))) sg_name (ss_if (sb_and (sb_test (se_op ok_isN se_var se_non)) (sb_B (se_call (sa_cons se_var (sa_cons se_var sa_nil))))) (ss_set se_var) ss_nx))
    (ss_seq (ss_if (sb_test (se_op ok_ne (se_b bf_repr (sa_cons (se_sn (sn_lst (sa_cons (se_call (sa_cons se_var (sa_cons se_var sa_nil))) (sa_cons (se_callR (sa_cons (se_b bf_tuple (sa_cons se_var sa_nil)) (sa_cons se_var sa_nil))) sa_nil)))) sa_nil)) (se_b bf_repr (sa_cons (se_sn (sn_lst (sa_cons se_var (sa_cons se_var sa_nil)))) sa_nil)))) (ss_ret se_bl) ss_nx)
    (ss_seq (ss_if (sb_test (se_op ok_ne (se_op ok_isN se_var se_non) (se_op ok_in (se_tup sa_nil) se_var))) (ss_ret se_bl) ss_nx)
    (ss_seq (ss_asg (se_call (sa_cons se_var (sa_cons se_var (sa_cons (se_op ok_add se_var (se_sn (sn_lst (sa_cons (se_tup (sa_cons se_int sa_nil)) sa_nil)))) sa_nil)))) (sg_tup (sgs_cons sg_name (sgs_cons sg_name sgs_nil)) rfl))
    (ss_seq (ss_setN (sn_lst (sa_cons (se_cau C.cau fun E => (se_call (sa_cons se_var (sa_cons se_var sa_nil)))) sa_nil)))
    (ss_seq (kss_app (se_cau C.cau fun E => (se_call (sa_cons se_var (sa_cons se_var (sa_cons se_non sa_nil))))))
    (ss_seq (kss_app (se_cau C.cau fun E => (se_call (sa_cons se_var (sa_cons se_var (sa_cons se_non (sa_cons se_non sa_nil)))))))
    (ss_seq (ss_frz 10 (ss_if (sb_test (se_op ok_ne (se_sn (sn_lc (si_U se_var) sg_name (by decide) (sb_or (sb_not (sb_B (se_b (bf_isi C.isi) (sa_cons se_var (sa_cons se_raw sa_nil))))) (sb_test (se_op ok_ne (se_b bf_repr (sa_cons (se_fld C.fld se_var) sa_nil)) (se_b bf_repr (sa_cons se_var sa_nil))))) se_int)) (se_sn (sn_lst sa_nil)))) (ss_ret se_bl) ss_nx))
    (ss_seq (ss_set (se_call (sa_cons se_var (sa_cons (se_sn (sn_lst (sa_cons se_non (sa_cons se_int (sa_cons se_int (sa_cons se_bl (sa_cons se_str (sa_cons (se_un ok_neg se_int) (sa_cons (se_tup (sa_cons se_int sa_nil)) sa_nil))))))))) sa_nil))))
    (ss_seq (ss_setN (sn_lst (sa_cons (se_cau C.cau fun E => (se_call (sa_cons se_var (sa_cons se_var sa_nil)))) sa_nil)))
    (ss_seq (kss_app (se_cau C.cau fun E => (se_call (sa_cons se_var (sa_cons se_var (sa_cons se_non sa_nil))))))
    (ss_seq (kss_app (se_cau C.cau fun E => (se_call (sa_cons se_var (sa_cons se_var (sa_cons se_non (sa_cons se_non sa_nil)))))))
    (ss_frz 10 (ss_if (sb_or (sb_test (se_op ok_ne (se_sn (sn_lc (si_U se_var) sg_name (by decide) (sb_not (sb_B (se_b (bf_isi C.isi) (sa_cons se_var (sa_cons se_raw sa_nil))))) se_int)) (se_sn (sn_lst sa_nil)))) (sb_test (se_op ok_ne (se_b bf_repr (sa_cons se_var sa_nil)) se_var))) (ss_ret se_bl) ss_nx))))))))))))))))))
    (ss_seq (ss_if (sb_or (sb_test (se_op ok_ne (se_call (sa_cons se_int (sa_cons (se_sn (sn_lst (sa_cons (se_tup (sa_cons se_int (sa_cons se_int sa_nil))) (sa_cons (se_tup (sa_cons se_int sa_nil)) (sa_cons (se_tup (sa_cons se_int (sa_cons se_int sa_nil))) sa_nil))))) sa_nil))) (se_tup (sa_cons se_int (sa_cons se_int sa_nil))))) (sb_test (se_op ok_ne (se_call (sa_cons se_int (sa_cons (se_sn (sn_lst sa_nil)) sa_nil))) (se_tup sa_nil)))) (ss_ret se_bl) ss_nx)
    (ss_ret (se_op ok_eq (se_call (sa_cons se_int (sa_cons (se_sn (sn_lc (si_rng1 (sa_cons se_int sa_nil)) sg_name (by decide) sb_yes (se_tup (sa_cons se_var sa_nil)))) sa_nil))) (se_tRg1 se_int)))))) hg h⟩)
end
end K41

set_option Elab.async false
set_option linter.all false
set_option maxRecDepth 100000
set_option maxHeartbeats 4000000
/-! What the functions make of lots. -/
namespace K41
open PySem PySem.Spec PyProof.Rows L2 LamX C8 Fx KH
variable {ec : Ec}
def isNum : D → Bool
  | .int _ => true
  | _ => false
def tyd (d : D) : Prop := d.ty ≠ none
theorem is_number_eq {x : D} (h : tyd x) : f_is_number ec [x] = .ret (.bl (isNum x)) := by
  cases x <;> first | rfl | exact absurd rfl h
theorem is_list_eq {x : D} (h : tyd x) : f_is_list ec [x] = .ret (.bl (isSq x)) := by
  cases x <;> first | rfl | exact absurd rfl h
def btw (lo hi : Int) : D → Bool
  | .int i => decide (lo ≤ i) && decide (i < hi)
  | _ => false
def ltD : D → D → Bool
  | .int i, .int j => decide (i < j)
  | _, _ => false
def okLotD (many : Int) : D → Bool
  | .tup es => es.all (btw 0 many) && (List.zipWith ltD es es.tail).all id
  | _ => false
theorem cutD_tail (xs : List D) : Fx.cutD xs (some 1) none = xs.tail := by
  have e : HT.sIx xs.length 0 (some 1) = min 1 xs.length := HT.sIx_nat _ _ 1
  unfold Fx.cutD
  rw [HT.sIx_none, e, List.take_of_length_le (by rw [List.length_drop]; omega)]
  cases xs with
  | nil => rfl
  | cons x r => rw [show min 1 (x :: r).length = 1 from by simp]; rfl
theorem zip_pairs (ns ms : List Int) : List.zipWith (fun x y => D.tup [x, y]) (ns.map .int) (ms.map .int) = (ns.zip ms).map fun p => D.tup [.int p.1, .int p.2] := by
  rw [List.zipWith_map, List.zip, List.map_zipWith]
theorem zip_lt (ns ms : List Int) : List.zipWith ltD (ns.map .int) (ms.map .int) = (ns.zip ms).map fun p => decide (p.1 < p.2) := by
  rw [List.zipWith_map, List.zip, List.map_zipWith]; rfl
/-- what a lot may be -/
def itemOk (x : D) : Prop := tyd x ∧ ∀ es, x = .tup es → es.length ≤ 1000 ∧ ∀ e ∈ es, tyd e
theorem is_lot_eq {many : Int} {x : D} (h : itemOk x) : f_is_lot ec [.int many, x] = .ret (.bl (okLotD many x)) := by
  obtain ⟨h, hx⟩ := h
  by_cases ht : ∃ es, x = .tup es
  · obtain ⟨es, rfl⟩ := ht
    obtain ⟨hl, he⟩ := hx es rfl
    have h1 : lcM (tgN 2) bYes (b_is_lot_c1 ec) [.dat (.int many), .dat (.tup es), .emp, .emp] es = .ret (es.map fun d => .bl (btw 0 many d)) := lcM_id _ (fun e h => ⟨_, rfl, rfl, by
      have := is_number_eq (ec := ec) (he e h)
      cases e <;> simp [b_is_lot_c1, this, isNum, btw]⟩)
    cases ha : es.all (btw 0 many) with
    | false => simp [-List.map_map, f_is_lot, b_is_lot, wipeE, isTy, clsL, h1, show es.length ≤ 100000 by omega, okLotD, ha]
    | true =>
      have hi : ∃ ns : List Int, es = ns.map .int := by
        refine ⟨es.map fun d => match d with | .int i => i | _ => 0, ?_⟩
        rw [List.map_map]
        conv => lhs; rw [← List.map_id es]
        refine List.map_congr_left fun d hd => ?_
        have := List.all_eq_true.mp ha d hd
        cases d <;> first | rfl | cases this
      obtain ⟨ns, rfl⟩ := hi
      have h2 : lcM (tgT [tgN 2, tgN 3]) bYes (b_is_lot_c2 ec) [.dat (.int many), .dat (.tup (ns.map .int)), .emp, .emp] ((ns.zip ns.tail).map fun p => .tup [.int p.1, .int p.2]) = .ret ((ns.zip ns.tail).map fun p => .bl (decide (p.1 < p.2))) := lcM_map _ _ (fun p h => ⟨_, rfl, rfl, by simp [b_is_lot_c2]⟩)
      simp [-List.map_map, -List.zipWith_map, f_is_lot, b_is_lot, wipeE, isTy, clsL, h1, show ns.length ≤ 100000 by simp at hl; omega, show ns.length ≤ 100001 by simp at hl; omega, okLotD, ha, cutD_tail, ← List.map_tail, zip_pairs, zip_lt, h2]
  · cases x <;> first | rfl | exact absurd rfl h | exact absurd ⟨_, rfl⟩ ht
/-- lots are lots -/
theorem lots_body {many : Int} {x e : D} {i : Int} (h : itemOk e) : b_need_lots_f1 ec [.dat (.int many), .dat x, .dat (.int i), .dat e] = if okLotD many e = true then .ret (.nx [.dat (.int many), .dat x, .dat (.int i), .dat e]) else .exc ec.BadLots [("at", .int i)] := by
  have h1 := is_lot_eq (ec := ec) (many := many) h
  cases ho : okLotD many e <;> simp [b_need_lots_f1, h1, ho]
theorem for_lots {many : Int} {x : D} : ∀ {es : List D} {k : Nat} {s2 s3 : Slot}, (∀ e ∈ es, itemOk e) →
    (forM (tgT [tgN 2, tgN 3]) (b_need_lots_f1 ec) ((es.zipIdx k).map fun p => .tup [.int (p.2 : Nat), p.1]) [.dat (.int many), .dat x, s2, s3]).bind fnOut =
      match es.findIdx? fun e => !okLotD many e with
      | none => .ret .non
      | some i => .exc ec.BadLots [("at", .int ((k + i : Nat) : Int))]
  | [], k, s2, s3, _ => rfl
  | e :: r, k, s2, s3, h => by
    rw [List.zipIdx_cons, List.map_cons, forM_c rfl, List.findIdx?_cons]
    have ih := for_lots (many := many) (x := x) (es := r) (k := k + 1) (s2 := .dat (.int (k : Nat))) (s3 := .dat e) fun y hy => h y (List.mem_cons_of_mem _ hy)
    show ((b_need_lots_f1 ec [.dat (.int many), .dat x, .dat (.int (k : Nat)), .dat e]).bind _).bind _ = _
    rw [lots_body (h e List.mem_cons_self)]
    cases ho : okLotD many e with
    | false => rfl
    | true =>
      rw [if_pos rfl]
      show (forM _ _ _ _).bind fnOut = _
      rw [ih]
      show (match List.findIdx? (fun e => !okLotD many e) r with | none => _ | some i => _) = match Option.map (fun i => i + 1) (List.findIdx? (fun e => !okLotD many e) r) with | none => _ | some i => _
      cases (List.findIdx? (fun e => !okLotD many e) r) with
      | none => rfl
      | some i =>
        show M.exc ec.BadLots [("at", D.int ((k + 1 + i : Nat) : Int))] = M.exc ec.BadLots [("at", D.int ((k + (i + 1) : Nat) : Int))]
        rw [Nat.add_assoc, Nat.add_comm 1 i]
theorem need_many {m x : D} (hm : tyd m) (h : btw 1 17 m = false) : f_need_lots ec [m, x] = .exc ec.BadMany [] := by
  have h1 := is_number_eq (ec := ec) hm
  cases hn : isNum m with
  | false => simp [f_need_lots, b_need_lots, h1, hn]
  | true =>
    cases m with
    | int i =>
      have : ¬ (1 ≤ i ∧ i ≤ 16) := by
        unfold btw at h
        simp at h
        omega
      by_cases h2 : 1 ≤ i <;> simp [f_need_lots, b_need_lots, h1, isNum, h2]
      rw [if_pos (by omega)]; rfl
    | _ => cases hn
theorem need_no {m : Int} {x : D} (h : 1 ≤ m ∧ m ≤ 16) (hx : tyd x) (h2 : isSq x = false ∨ ∃ b es, x = dS b es ∧ 400 < es.length) : f_need_lots ec [.int m, x] = .exc ec.BadLots [("at", .non)] := by
  have h1 := is_number_eq (ec := ec) (x := .int m) (by simp [tyd])
  have h3 := is_list_eq (ec := ec) hx
  rcases h2 with h2 | ⟨b, es, rfl, h4⟩
  · simp [f_need_lots, b_need_lots, h1, h3, isNum, h, h2]
  · cases b <;> simp [dS] at h3 ⊢ <;> simp [f_need_lots, b_need_lots, h1, h3, isNum, h, isSq, show (400 : Int) < (es.length : Int) by omega]
theorem need_eq {m : Int} {b : Bool} {es : List D} (h : 1 ≤ m ∧ m ≤ 16) (hl : es.length ≤ 400) (he : ∀ e ∈ es, itemOk e) : f_need_lots ec [.int m, dS b es] = match es.findIdx? fun e => !okLotD m e with
      | none => .ret .non
      | some i => .exc ec.BadLots [("at", .int (i : Nat))] := by
  have h1 := is_number_eq (ec := ec) (x := .int m) (by simp [tyd])
  have h3 : f_is_list ec [dS b es] = .ret (.bl true) := by cases b <;> exact is_list_eq (by simp [tyd, dS])
  have h4 := for_lots (ec := ec) (many := m) (x := dS b es) (k := 0) (s2 := .emp) (s3 := .emp) he
  have h5 : ∀ f, f = (forM (tgT [tgN 2, tgN 3]) (b_need_lots_f1 ec) ((es.zipIdx 0).map fun p => .tup [.int (p.2 : Nat), p.1]) [.dat (.int m), .dat (dS b es), .emp, .emp]).bind fnOut → f = match es.findIdx? fun e => !okLotD m e with
      | none => .ret .non
      | some i => .exc ec.BadLots [("at", .int (i : Nat))] := fun f e => by
    rw [e, h4]
    cases es.findIdx? fun e => !okLotD m e with
    | none => rfl
    | some i =>
      show M.exc ec.BadLots [("at", D.int ((0 + i : Nat) : Int))] = M.exc ec.BadLots [("at", D.int ((i : Nat) : Int))]
      rw [Nat.zero_add]
  apply h5
  cases b <;> simp [dS] at h3 ⊢ <;> simp [-List.map_map, f_need_lots, b_need_lots, h1, h3, isNum, h, isSq, show ¬ (400 : Int) < (es.length : Int) by omega]
/-! ### the package, on lots -/
abbrev dLs (b : Bool) (lots : List (List Int)) : D := dS b (lots.map dI)
abbrev dLN (js : List Nat) : D := dLI (js.map fun (j : Nat) => (j : Int))
def SzOk (lots : List (List Int)) : Prop := lots.length ≤ 1000 ∧ ∀ l ∈ lots, l.length ≤ 1000
theorem any_in {g : Int} {ns : List Int} : (ns.map D.int).any (fun y => D.eqv y (.int g)) = decide (g ∈ ns) := by
  rw [List.any_map, Bool.eq_iff_iff, List.any_eq_true, decide_eq_true_eq]
  constructor
  · rintro ⟨x, hx, e⟩
    have e : D.eqv (.int x) (.int g) = true := e
    rw [eqv_int] at e
    exact of_decide_eq_true e ▸ hx
  · intro h
    exact ⟨g, h, by show D.eqv (.int g) (.int g) = true; rw [eqv_int]; simp⟩
theorem okI {g : Int} : D.ok 64 (.int g) = true := ok_int
theorem okT {ns : List Int} : D.ok 64 (.tup (ns.map .int)) = true := okL_map (n := 63) (fun _ => ok_int) _
theorem okLL {b : Bool} {lots : List (List Int)} : D.ok 64 (dLs b lots) = true := by
  have h : ∀ l : List Int, D.ok 63 (dI l) = true := fun l => okL_map (n := 62) (f := D.int) (fun _ => ok_int) l
  have : okL 63 (lots.map dI) = true := okL_map (n := 63) h _
  cases b <;> exact this
theorem open_lots_eq {b : Bool} {lots : List (List Int)} {taken : List Int} (hz : SzOk lots) : f_open_lots ec [dLs b lots, dI taken] = .ret (dLN (openN lots taken)) := by
  have h2 : lcM (tgT [tgN 2, tgN 3]) (b_open_lots_t2 ec) (eVar 2) [.dat (dLs b lots), .dat (dI taken), .emp, .emp, .emp] (lots.zipIdx.map fun p => .tup [.int (p.2 : Nat), dI p.1]) = .ret ((lots.zipIdx.filter fun p => !p.1.any fun g => decide (g ∈ taken)).map fun p => .int (p.2 : Nat)) := lcM_of _ _ _ fun p hp => ⟨_, rfl, by
    have hl : p.1 ∈ lots := List.mem_of_getElem? (List.mk_mem_zipIdx_iff_getElem?.mp hp)
    have h1 : lcM (tgN 4) bYes (b_open_lots_c1 ec) [.dat (dLs b lots), .dat (dI taken), .dat (.int (p.2 : Nat)), .dat (dI p.1), .emp] (p.1.map .int) = .ret (p.1.map fun g => .bl (decide (g ∈ taken))) := lcM_map _ _ fun g hg => ⟨_, rfl, rfl, by
      have := any_in (g := g) (ns := taken)
      simp [-List.any_map, b_open_lots_c1, okI, okT, this]⟩
    have h3 := hz.2 _ hl
    simp [-List.map_map, -List.any_map, b_open_lots_t2, wipeE, h1, show p.1.length ≤ 100000 by omega, List.any_map], fun _ => by simp⟩
  have e : ((lots.map dI).zipIdx.map fun p => D.tup [.int (p.2 : Nat), p.1]) = lots.zipIdx.map fun p => D.tup [.int (p.2 : Nat), dI p.1] := by
    rw [List.zipIdx_map, List.map_map]; rfl
  have hl := hz.1
  have e2 : dLN (openN lots taken) = .lst ((lots.zipIdx.filter fun p => !p.1.any fun g => decide (g ∈ taken)).map fun p => .int (p.2 : Nat)) := by
    unfold openN dLN dLI
    rw [List.map_map, List.map_map]; rfl
  rw [e2]
  cases b <;> simp [dS] at h2 ⊢ <;> simp [-List.map_map, f_open_lots, b_open_lots, wipeE, e, h2, show lots.length ≤ 100000 by omega]
/-- what stands at a place -/
theorem at_lot {b : Bool} {lots : List (List Int)} {j : Nat} (hj : j < lots.length) : oIx (dLs b lots) (.int (j : Nat)) = .ret (dI (lots.getD j [])) := by
  have e : (lots.map dI)[j]? = some (dI (lots.getD j [])) := by rw [List.getElem?_map, List.getElem?_eq_getElem hj, List.getD_eq_getElem?_getD, List.getElem?_eq_getElem hj]; rfl
  cases b <;> simp [dS, e, -List.getElem?_map]
theorem keys_eq {b : Bool} {lots : List (List Int)} {js : List Nat} (h : ∀ j ∈ js, j < lots.length) : ∀ {env : Env'}, (eraseM env)[0]? = some (.dat (dLs b lots)) → env.length = 3 → keysM asT? 2 (eTup (aCons (eB bLen (aCons (eOp oIx (eVar 0) (eVar 2)) aNil)) (aCons (eVar 2) aNil))) env (js.map fun (j : Nat) => D.int (j : Nat)) = some (js.map (keyS lots)) := fun {env} h0 hl => by
  induction js with
  | nil => rfl
  | cons j r ih =>
    have hj := at_lot (b := b) (h j List.mem_cons_self)
    have e0 : ((eraseM env).set 2 (.dat (.int (j : Nat))))[0]? = some (.dat (dLs b lots)) := by rw [List.getElem?_set_ne (by decide)]; exact h0
    have e2 : ((eraseM env).set 2 (.dat (.int (j : Nat))))[2]? = some (.dat (.int (j : Nat))) := List.getElem?_set_self (by rw [eraseM_len, hl]; decide)
    rw [List.map_cons, keysM]
    have e3 : eTup (aCons (eB bLen (aCons (eOp oIx (eVar 0) (eVar 2)) aNil)) (aCons (eVar 2) aNil)) ((eraseM env).set 2 (.dat (.int (j : Nat)))) = .ret (dI (keyS lots j)) := by
      simp [e0, e2, hj, keyS]
    rw [e3]
    show (asInts ((keyS lots j).map .int)).bind _ = _
    rw [asInts_map, ih fun i hi => h i (List.mem_cons_of_mem _ hi)]
    rfl
theorem shortest_eq {b : Bool} {lots : List (List Int)} {js : List Nat} (hne : js ≠ []) (h : ∀ j ∈ js, j < lots.length) : f_shortest ec [dLs b lots, dLN js] = .ret (.int (shortN lots js : Nat)) := by
  have hk := keys_eq (b := b) h (env := [.dat (dLs b lots), .dat (dLN js), .emp]) rfl rfl
  have hm := minAt_lt (lt := HT.lexLt) (ks := js.map (keyS lots)) (by simpa using hne)
  rw [List.length_map] at hm
  have e : shortN lots js = js[minAt HT.lexLt (js.map (keyS lots))] := by
    unfold shortN
    rw [List.getD_eq_getElem?_getD, List.getElem?_eq_getElem hm]; rfl
  have e1 : (js.map fun (j : Nat) => D.int (j : Nat))[minAt HT.lexLt (js.map (keyS lots))]? = some (.int (shortN lots js : Nat)) := by
    rw [List.getElem?_map, List.getElem?_eq_getElem hm, e]; rfl
  have e2 : dLN js = .lst (js.map fun (j : Nat) => D.int (j : Nat)) := by unfold dLN dLI; rw [List.map_map]; rfl
  rw [e2] at hk ⊢
  show ((eMinK HT.lexLt asT? 2 (eVar 1) _ [.dat (dLs b lots), .dat (.lst (js.map fun (j : Nat) => D.int (j : Nat))), .emp]).bind _).bind _ = _
  have e3 : eMinK HT.lexLt asT? 2 (eVar 1) (eTup (aCons (eB bLen (aCons (eOp oIx (eVar 0) (eVar 2)) aNil)) (aCons (eVar 2) aNil))) [.dat (dLs b lots), .dat (.lst (js.map fun (j : Nat) => D.int (j : Nat))), .emp] = .ret (.int (shortN lots js : Nat)) := by
    show (ofO (keysM asT? 2 _ _ _) _ : M D) = _
    rw [hk]
    show ifM _ (ofO _ _) = _
    rw [ifM_pos (by simpa using hne), e1]; rfl
  rw [e3]; rfl
/-! ### can_hit, least_of, least_hits -/
theorem rec_can {b : Bool} {lots : List (List Int)} {first : Int} (hz : SzOk lots) : ∀ (n m : Nat) (taken : List Int), m < n → taken.length + m ≤ 1000 → r_can_hit ec n [dLs b lots, dI taken, .int (m : Nat), .int first] = .ret (.bl (canHit lots first m taken))
  | 0, m, taken, h, _ => absurd h (Nat.not_lt_zero m)
  | n + 1, m, taken, h, ht => by
    have ho := open_lots_eq (ec := ec) (b := b) (taken := taken) hz
    have hl : (dLN (openN lots taken)) = .lst ((openN lots taken).map fun (j : Nat) => D.int (j : Nat)) := by unfold dLN dLI; rw [List.map_map]; rfl
    by_cases c : openN lots taken = []
    · have hc : canHit lots first m taken = true := by cases m <;> simp [canHit, c]
      rw [c] at ho
      simp [r_can_hit, b_can_hit, ho, hc, okI, eqv_int]
    · have hlen : ¬ (openN lots taken).length = 0 := fun z => c (List.length_eq_zero_iff.mp z)
      have hlen2 : ¬ ((openN lots taken).length : Int) = 0 := by omega
      have he : (openN lots taken).isEmpty = false := by
        cases h : openN lots taken with
        | nil => exact absurd h c
        | cons => rfl
      cases m with
      | zero => simp [r_can_hit, b_can_hit, ho, okI, eqv_int, canHit, he, hlen]
      | succ m =>
        have hs := shortN_mem (lots := lots) c
        have hsl := openN_lt hs
        have h1 := shortest_eq (ec := ec) (b := b) c fun j hj => openN_lt (lots := lots) (taken := taken) hj
        have h2 := at_lot (b := b) hsl
        have h3 : lcM (tgN 6) bYes (b_can_hit_c1 ec (r_can_hit ec n)) [.dat (dLs b lots), .dat (dI taken), .dat (.int ((m + 1 : Nat) : Int)), .dat (.int first), .dat (dLN (openN lots taken)), .dat (dI (lotAt lots taken)), .emp] ((lotAt lots taken).map .int) = .ret ((lotAt lots taken).map fun g => .bl (decide (first ≤ g) && canHit lots first m (taken ++ [g]))) := lcM_map _ _ fun g hg => ⟨_, rfl, rfl, by
          have hr := rec_can (b := b) (first := first) hz n m (taken ++ [g]) (by omega) (by simp; omega)
          have e1 : taken.map D.int ++ [D.int g] = (taken ++ [g]).map D.int := by simp
          have e2 : ((m + 1 : Nat) : Int) - 1 = (m : Nat) := by omega
          by_cases hf : first ≤ g
          · simp [-List.map_append, b_can_hit_c1, hf, e1, e2, hr, show taken.length + 1 ≤ 100000 by omega]
          · simp [b_can_hit_c1, hf]⟩
        have h4 := hz.2 _ (lotAt_mem c)
        have hlot : lots.getD (shortN lots (openN lots taken)) [] = lotAt lots taken := rfl
        have hm0 : ¬ ((m : Int) + 1 = 0) := by omega
        have h5 : (m + 1 : Nat) = ((m + 1 : Nat) : Int) := rfl
        simp only [hlot] at h2
        simp [-List.map_map, -List.any_map, -Int.natCast_add, r_can_hit, b_can_hit, ho, h1, h2, okI, eqv_int, hlen, wipeE, h3, show (lotAt lots taken).length ≤ 100000 by omega, canHit, he]
        rw [List.any_map]; rfl
theorem can_hit_eq {b : Bool} {lots : List (List Int)} {first : Int} {m : Nat} {taken : List Int} (hz : SzOk lots) (hm : m ≤ 17) (ht : taken.length ≤ 100) : f_can_hit ec [dLs b lots, dI taken, .int (m : Nat), .int first] = .ret (.bl (canHit lots first m taken)) := rec_can hz 20 m taken (by omega) (by omega)
theorem can_hit_at {b : Bool} {lots : List (List Int)} {first : Int} {m : Nat} {i : Int} {taken : List Int} {es : List D} (hz : SzOk lots) (hi : i = (m : Nat)) (he : es = taken.map .int) (hm : m ≤ 17) (ht : taken.length ≤ 100) : f_can_hit ec [dLs b lots, .tup es, .int i, .int first] = .ret (.bl (canHit lots first m taken)) := by
  subst hi he
  exact can_hit_eq hz hm ht
end K41

set_option Elab.async false
set_option linter.all false
set_option maxRecDepth 100000
set_option maxHeartbeats 4000000
/-! What the functions make of lots, further. -/
namespace K41
open PySem PySem.Spec PyProof.Rows L2 LamX C8 Fx KH
variable {ec : Ec}
theorem least_body {many : Int} {b : Bool} {lots : List (List Int)} {size i : Nat} {found : List Int} {s5 s6 s7 : Slot} {g : Int} {rest : List Int} (hm : 1 ≤ many ∧ many ≤ 16) (hz : SzOk lots) (hs : size ≤ 16) (hi : i < size) (hf : found.length = i) (hfo : 0 ≤ firstOf found ∧ firstOf found ≤ many) (h : stepL many lots (size - i - 1) found = g :: rest) :
    b_least_of_f2 ec [.dat (.int many), .dat (dLs b lots), .dat (.int (size : Nat)), .dat (dI found), .dat (.int (i : Nat)), s5, s6, s7] = .ret (.nx [.dat (.int many), .dat (dLs b lots), .dat (.int (size : Nat)), .dat (dI (found ++ [g])), .dat (.int (i : Nat)), .dat (.int (firstOf found)), .dat (dLI (stepL many lots (size - i - 1) found)), s7]) := by
  have h1 : (eIf (bV (eOp oGt (eVar 4) (eC (.int 0)))) (eOp oAdd (eOp oIx (eVar 3) (eUn uNeg (eC (.int 1)))) (eC (.int 1))) (eC (.int 0))) [.dat (.int many), .dat (dLs b lots), .dat (.int (size : Nat)), .dat (dI found), .dat (.int (i : Nat)), s5, s6, s7] = .ret (.int (firstOf found)) := by
    rcases List.eq_nil_or_concat found with e | ⟨f, x, e⟩
    · subst e; simp at hf; subst hf; simp [firstOf]
    · rw [List.concat_eq_append] at e
      subst e
      simp at hf
      have e : atI ((f ++ [x]).map D.int) (-1) = some (.int x) := by
        unfold atI ixN
        rw [if_neg (by decide), List.length_map, List.length_append, List.length_singleton, if_pos (by omega), Option.bind_some, show ((-1 : Int) + ((f.length + 1 : Nat) : Int)).toNat = f.length by omega]
        simp
      have : 0 < i := by omega
      simp [-List.map_append, this, e, firstOf_snoc]
  have h2 : lcM (tgN 7) (b_least_of_t1 ec) (eVar 7) [.dat (.int many), .dat (dLs b lots), .dat (.int (size : Nat)), .dat (dI found), .dat (.int (i : Nat)), .dat (.int (firstOf found)), s6, .emp] ((rgD (firstOf found) many).map .int) = .ret (((rgD (firstOf found) many).filter fun g => canHit lots (g + 1) (size - i - 1) (found ++ [g])).map .int) := lcM_of _ _ _ fun g hg => ⟨_, rfl, by
    have hc := can_hit_at (ec := ec) (b := b) (first := g + 1) (i := (size : Int) - (i : Int) - 1) (m := size - i - 1) (taken := found ++ [g]) (es := found.map .int ++ [.int g]) hz (by omega) (by simp) (by omega) (by simp; omega)
    simp [b_least_of_t1, hc, show found.length + 1 ≤ 100000 by omega], fun _ => rfl⟩
  have h3 : (rgD (firstOf found) many).length ≤ 100000 := by unfold rgD; rw [List.length_map, List.length_range]; omega
  have e1 : ((rgD (firstOf found) many).filter fun g => canHit lots (g + 1) (size - i - 1) (found ++ [g])) = stepL many lots (size - i - 1) found := rfl
  rw [e1] at h2
  show (sSeq (sSet 5 (eIf _ _ _)) _ _) = _
  rw [sSeq_x, sSet_x, h1]
  have : found.length + 1 ≤ 100000 := by omega
  simp [h2, h, wipeE, smI_of (show -1000000 ≤ firstOf found ∧ firstOf found ≤ 1000000 by omega), smI_of (show -1000000 ≤ many ∧ many ≤ 1000000 by omega), h3, this]
theorem rg0 (n : Nat) : (rgD 0 n).map D.int = (List.range' 0 n).map fun j : Nat => D.int (j : Nat) := by
  unfold rgD
  rw [List.map_map, List.range_eq_range', show ((n : Int) - 0).toNat = n by omega]
  refine List.map_congr_left fun i _ => ?_
  show D.int (0 + (i : Nat)) = _
  rw [Int.zero_add]
theorem least_loop {many : Int} {b : Bool} {lots : List (List Int)} {size : Nat} {r : List Int} (hm : 1 ≤ many ∧ many ≤ 16) (hz : SzOk lots) (hs : size ≤ 16) : ∀ (k i : Nat) (found : List Int) (s4 s5 s6 s7 : Slot), i + k = size → found.length = i → (0 ≤ firstOf found ∧ firstOf found ≤ many) → leastOf many lots k found = some r →
    ∃ t4 t5 t6, forM (tgN 4) (b_least_of_f2 ec) ((List.range' i k).map fun j : Nat => D.int (j : Nat)) [.dat (.int many), .dat (dLs b lots), .dat (.int (size : Nat)), .dat (dI found), s4, s5, s6, s7] = .ret (.nx [.dat (.int many), .dat (dLs b lots), .dat (.int (size : Nat)), .dat (dI r), t4, t5, t6, s7])
  | 0, i, found, s4, s5, s6, s7, _, _, _, h => by
    cases h
    exact ⟨s4, s5, s6, rfl⟩
  | k + 1, i, found, s4, s5, s6, s7, hi, hf, hfo, h => by
    rw [List.range'_succ, List.map_cons, forM_c rfl]
    have ek : size - i - 1 = k := by omega
    cases hst : stepL many lots k found with
    | nil => unfold leastOf at h; rw [hst] at h; cases h
    | cons g rest =>
      have hb := least_body (ec := ec) (b := b) (s5 := s5) (s6 := s6) (s7 := s7) hm hz hs (by omega : i < size) hf hfo (by rw [ek]; exact hst)
      show ∃ t4 t5 t6, (b_least_of_f2 ec [.dat (.int many), .dat (dLs b lots), .dat (.int (size : Nat)), .dat (dI found), .dat (.int (i : Nat)), s5, s6, s7]).bind _ = _
      rw [hb]
      have h' : leastOf many lots k (found ++ [g]) = some r := by unfold leastOf at h; rw [hst] at h; exact h
      have q := stepL_ge (hst ▸ List.mem_cons_self : g ∈ stepL many lots k found)
      exact least_loop hm hz hs k (i + 1) (found ++ [g]) _ _ _ _ (by omega) (by simp [hf]) (by rw [firstOf_snoc]; omega) h'
theorem least_of_eq {many : Int} {b : Bool} {lots : List (List Int)} {size : Nat} {r : List Int} (hm : 1 ≤ many ∧ many ≤ 16) (hz : SzOk lots) (hs : size ≤ 16) (h : leastOf many lots size [] = some r) : f_least_of ec [.int many, dLs b lots, .int (size : Nat)] = .ret (dI r) := by
  obtain ⟨s4, s5, s6, hl⟩ := least_loop (ec := ec) (b := b) hm hz hs size 0 [] .emp .emp .emp .emp (by omega) rfl ⟨Int.le_refl _, by show 0 ≤ many; omega⟩ h
  rw [← rg0] at hl
  have hl : forM (tgN 4) (b_least_of_f2 ec) ((rgD 0 (size : Nat)).map D.int) [.dat (.int many), .dat (dLs b lots), .dat (.int (size : Nat)), .dat (.tup []), .emp, .emp, .emp, .emp] = _ := hl
  simp [-List.map_map, f_least_of, b_least_of, smI_of (show -1000000 ≤ (size : Int) ∧ (size : Int) ≤ 1000000 by omega), hl]
/-- the lots as they are judged -/
theorem okLotD_of {many : Int} {l : List Int} (h : Asc many l) : okLotD many (dI l) = true := by
  unfold okLotD
  rw [Bool.and_eq_true, List.all_map, List.all_eq_true, ← List.map_tail, zip_lt, List.all_map, List.all_eq_true]
  refine ⟨fun g hg => by have := h.2 g hg; simp [btw]; omega, ?_⟩
  have : ∀ l : List Int, l.Pairwise (· < ·) → ∀ p ∈ l.zip l.tail, decide (p.1 < p.2) = true := by
    intro l
    induction l with
    | nil => intro _ p hp; simp at hp
    | cons x r ih =>
      intro hp p hpm
      have h2 := List.pairwise_cons.mp hp
      cases r with
      | nil => simp at hpm
      | cons y r =>
        simp only [List.tail_cons, List.zip_cons_cons, List.mem_cons] at hpm
        rcases hpm with rfl | hpm
        · exact decide_eq_true (h2.1 y List.mem_cons_self)
        · exact ih h2.2 p (by simpa using hpm)
  exact this l h.1
/-- lots of gaps -/
structure LsOk (many : Int) (lots : List (List Int)) : Prop where
  rng : 1 ≤ many ∧ many ≤ 16
  len : lots.length ≤ 400
  asc : ∀ l ∈ lots, Asc many l
theorem LsOk.sz {many : Int} {lots : List (List Int)} (h : LsOk many lots) : SzOk lots := ⟨by have := h.len; omega, fun l hl => by have := asc_len (h.asc l hl) (by have := h.rng; omega); have := h.rng; omega⟩
theorem need_ok {many : Int} {b : Bool} {lots : List (List Int)} (h : LsOk many lots) : f_need_lots ec [.int many, dLs b lots] = .ret .non := by
  have hn : (lots.map dI).findIdx? (fun e => !okLotD many e) = none := by
    rw [List.findIdx?_eq_none_iff]
    intro e he
    obtain ⟨l, hl, rfl⟩ := List.mem_map.mp he
    rw [okLotD_of (h.asc l hl)]; rfl
  have := need_eq (ec := ec) (m := many) (b := b) (es := lots.map dI) h.rng (by rw [List.length_map]; exact h.len) fun e he => by
    obtain ⟨l, hl, rfl⟩ := List.mem_map.mp he
    refine ⟨by simp [tyd], fun es e => ?_⟩
    cases e
    exact ⟨by rw [List.length_map]; exact h.sz.2 l hl, fun e he => by obtain ⟨g, _, rfl⟩ := List.mem_map.mp he; simp [tyd]⟩
  rw [this, hn]
theorem nil_in {b : Bool} {lots : List (List Int)} : inM (.tup []) (dLs b lots) = .ret (decide ([] ∈ lots)) := by
  have e : ((lots.map dI).any fun y => D.eqv y (.tup [])) = decide ([] ∈ lots) := by
    rw [List.any_map]
    have : (lots.any ((fun y => D.eqv y (.tup [])) ∘ dI)) = lots.any fun l => decide (l = []) := by
      congr 1
      funext l
      show D.eqv (dI l) (dI []) = _
      exact eqv_dI
    rw [this, Bool.eq_iff_iff]
    simp
  have h1 : D.ok 64 (.tup []) = true := rfl
  have h2 := okLL (b := b) (lots := lots)
  cases b <;> simp only [dLs, dS] at h2 ⊢ <;> simp [-List.any_map, h1, h2, e]
theorem while_t {many : Int} {b : Bool} {lots : List (List Int)} {i : Nat} {x : Int} (hz : SzOk lots) (hx : x = (i : Nat)) (hi : i ≤ 16) : b_least_hits_t1 ec [.dat (.int many), .dat (dLs b lots), .dat (.int x)] = .ret (!canHit lots 0 i []) := by
  have hc := can_hit_at (ec := ec) (b := b) (lots := lots) (first := 0) (m := i) (i := x) (taken := []) (es := []) hz hx rfl (by omega) (by simp)
  simp [b_least_hits_t1, hc]
theorem while_w {s0 s1 : Slot} {x : Int} : b_least_hits_w2 ec [s0, s1, .dat (.int x)] = .ret (.nx [s0, s1, .dat (.int (x + 1))]) := by simp [b_least_hits_w2]
theorem while_hit {many : Int} {b : Bool} {lots : List (List Int)} {size : Nat} (hz : SzOk lots) (hs : size ≤ 16) (ht : canHit lots 0 size [] = true) (hf : ∀ m, m < size → canHit lots 0 m [] = false) : ∀ (k i n : Nat) (x : Int), i + k = size → k < n → x = (i : Nat) →
    whM (b_least_hits_t1 ec) (b_least_hits_w2 ec) n [.dat (.int many), .dat (dLs b lots), .dat (.int x)] = .ret (.nx [.dat (.int many), .dat (dLs b lots), .dat (.int (size : Nat))])
  | 0, i, n, x, hi, hn, hx => by
    obtain ⟨n, rfl⟩ : ∃ m, n = m + 1 := ⟨n - 1, by omega⟩
    have e : i = size := by omega
    subst e
    rw [whM_s, while_t hz hx hs, ht, hx]
    rfl
  | k + 1, i, n, x, hi, hn, hx => by
    obtain ⟨n, rfl⟩ : ∃ m, n = m + 1 := ⟨n - 1, by omega⟩
    rw [whM_s, while_t hz hx (by omega), hf i (by omega), M.b_ret, if_pos (by rfl), while_w, M.b_ret, loopO_n]
    exact while_hit hz hs ht hf k (i + 1) n (x + 1) (by omega) (by omega) (by omega)
theorem LsOk.lots {many : Int} {lots : List (List Int)} (h : LsOk many lots) (hn : [] ∉ lots) : Lots many lots := ⟨h.rng, h.asc, hn⟩
theorem least_hits_eq {many : Int} {b : Bool} {lots : List (List Int)} (h : LsOk many lots) : f_least_hits ec [.int many, dLs b lots] = .ret (if [] ∈ lots then .non else dI (leastF many lots)) := by
  have h1 := need_ok (ec := ec) (b := b) h
  have h2 := nil_in (b := b) (lots := lots)
  by_cases hn : [] ∈ lots
  · simp [f_least_hits, b_least_hits, h1, h2, hn]
  · have ok := h.lots hn
    obtain ⟨t16, tc, tf, _⟩ := tau_spec ok
    have e1 := (least_spec ok).1
    have h3 := while_hit (ec := ec) (many := many) (b := b) h.sz t16 tc tf (tauF lots) 0 100 0 (by omega) (by omega) rfl
    have h4 := least_of_eq (ec := ec) (b := b) h.rng h.sz t16 e1
    simp [f_least_hits, b_least_hits, h1, h2, hn, h3, h4]
end K41

set_option Elab.async false
set_option linter.all false
set_option maxRecDepth 100000
set_option maxHeartbeats 4000000
/-! The law's helpers. -/
namespace K41
open PySem PySem.Spec PyProof.Rows L2 LamX C8 Fx KH
variable {ec : Ec} {z : Zw} {S : Addr} {c : Nat} {X : PX}
theorem pick_wp {es : List D} {P : D → Nat → Prop} (hS : z.isS S) (h0 : 0 < es.length) (h1 : es.length ≤ 100000) (hc : c ≤ 1000000) (h : ∀ e ∈ es, P e (c + 1)) : wpM z (f_law_pick ec [.raw (.ref S), .lst es]) c P X := by
  simp [f_law_pick, b_law_pick]
  refine wp_draw hS (by omega) (by omega) (by omega) fun x x0 x1 => ?_
  obtain ⟨k, rfl⟩ := Int.eq_ofNat_of_zero_le x0
  have hk : k < es.length := by omega
  rw [atI_n, List.getElem?_eq_getElem hk]
  exact h _ (List.getElem_mem hk)
/-- does a set of gaps hit all lots -/
def hitB (lots : List (List Int)) (gaps : List Int) : Bool := lots.all fun l => l.any fun g => decide (g ∈ gaps)
theorem hitB_iff {lots : List (List Int)} {gaps : List Int} : hitB lots gaps = true ↔ Hits gaps lots := by
  unfold hitB Hits
  rw [List.all_eq_true]
  exact forall_congr' fun l => forall_congr' fun _ => by rw [List.any_eq_true]; exact exists_congr fun g => and_congr Iff.rfl decide_eq_true_iff
theorem do_hit_eq {lots : List (List Int)} {gaps : List Int} (hz : SzOk lots) : f_law_do_hit ec [dLL lots, dI gaps] = .ret (.bl (hitB lots gaps)) := by
  have h1 : lcM (tgN 2) (b_law_do_hit_t2 ec) (eVar 2) [.dat (dLL lots), .dat (dI gaps), .emp, .emp] (lots.map dI) = .ret ((lots.filter fun l => !l.any fun g => decide (g ∈ gaps)).map dI) := lcM_of _ _ _ fun l hl => ⟨_, rfl, by
    have h2 : lcM (tgN 3) (b_law_do_hit_t1 ec) (eVar 3) [.dat (dLL lots), .dat (dI gaps), .dat (dI l), .emp] (l.map .int) = .ret ((l.filter fun g => decide (g ∈ gaps)).map .int) := lcM_of _ _ _ fun g hg => ⟨_, rfl, by
      have := any_in (g := g) (ns := gaps)
      simp [-List.any_map, b_law_do_hit_t1, this], fun _ => rfl⟩
    have h3 := hz.2 l hl
    simp [b_law_do_hit_t2, wipeE, h2, show l.length ≤ 100000 by omega]
    rw [Bool.eq_iff_iff]
    simp [List.filter_eq_nil_iff], fun _ => rfl⟩
  have hl := hz.1
  have ho : okL 63 ((lots.filter fun l => !l.any fun g => decide (g ∈ gaps)).map dI) = true := okL_map (n := 63) (f := dI) (fun l => okL_map (n := 62) (f := D.int) (fun _ => ok_int) l) _
  simp [-List.any_eq, f_law_do_hit, b_law_do_hit, wipeE, h1, show lots.length ≤ 100000 by omega, ho]
  unfold hitB
  rw [Bool.eq_iff_iff]
  simp [List.filter_eq_nil_iff]
/-- all sets of gaps below n -/
def subsF : Nat → List (List Int)
  | 0 => [[]]
  | n + 1 => subsF n ++ (subsF n).map fun l => l ++ [(n : Int)]
def keyL (l : List Int) : Int × List Int := (l.length, l)
def allL (n : Nat) : List (List Int) := isort (fun x y => lexP (keyL x) (keyL y)) (subsF n)
theorem subsF_len : ∀ n, (subsF n).length = 2 ^ n
  | 0 => rfl
  | n + 1 => by rw [subsF, List.length_append, List.length_map, subsF_len n, Nat.pow_succ]; omega
theorem subsF_mem : ∀ {n : Nat} {l : List Int}, l ∈ subsF n ↔ Asc n l
  | 0, l => by
    rw [subsF, List.mem_singleton]
    constructor
    · rintro rfl; exact ⟨.nil, fun g h => by cases h⟩
    · intro h
      cases l with
      | nil => rfl
      | cons x r => have := h.2 x List.mem_cons_self; omega
  | n + 1, l => by
    rw [subsF, List.mem_append, List.mem_map]
    constructor
    · rintro (h | ⟨m, hm, rfl⟩)
      · have := subsF_mem.mp h
        exact ⟨this.1, fun g hg => by have := this.2 g hg; omega⟩
      · have := subsF_mem.mp hm
        refine ⟨List.pairwise_append.mpr ⟨this.1, List.pairwise_singleton _ _, fun a ha b hb => ?_⟩, fun g hg => ?_⟩
        · rw [List.mem_singleton.mp hb]; exact (this.2 a ha).2
        · rcases List.mem_append.mp hg with hg | hg
          · have := this.2 g hg; omega
          · rw [List.mem_singleton.mp hg]; omega
    · intro h
      rcases List.eq_nil_or_concat l with e | ⟨m, x, e⟩
      · exact .inl (subsF_mem.mpr ⟨h.1, fun g hg => by rw [e] at hg; cases hg⟩)
      · rw [List.concat_eq_append] at e
        subst e
        have hp := List.pairwise_append.mp h.1
        have hx := h.2 x (by simp)
        by_cases e : x = n
        · subst e
          exact .inr ⟨m, subsF_mem.mpr ⟨hp.1, fun g hg => ⟨(h.2 g (List.mem_append_left _ hg)).1, hp.2.2 g hg _ (List.mem_singleton.mpr rfl)⟩⟩, rfl⟩
        · refine .inl (subsF_mem.mpr ⟨h.1, fun g hg => ⟨(h.2 g hg).1, ?_⟩⟩)
          rcases List.mem_append.mp hg with hg | hg
          · have := hp.2.2 g hg x (List.mem_singleton.mpr rfl); omega
          · rw [List.mem_singleton.mp hg]; omega
theorem all_body {n : Nat} (hn : n < 8) {s0 s3 : Slot} : b_law_all_lots_f2 ec [s0, .dat (dLL (subsF n)), .dat (.int (n : Nat)), s3] = .ret (.nx [s0, .dat (dLL (subsF (n + 1))), .dat (.int (n : Nat)), s3]) := by
  have hp : 2 ^ n ≤ 128 := Nat.le_trans (Nat.pow_le_pow_right (by decide) (by omega : n ≤ 7)) (by decide)
  have h1 : lcM (tgN 3) bYes (b_law_all_lots_c1 ec) [s0, .dat (dLL (subsF n)), .dat (.int (n : Nat)), .emp] ((subsF n).map dI) = .ret ((subsF n).map fun l => dI (l ++ [(n : Int)])) := lcM_map _ _ fun l hl => ⟨_, rfl, rfl, by
    have := asc_len (subsF_mem.mp hl) (by omega)
    simp [b_law_all_lots_c1, show l.length + 1 ≤ 100000 by omega]⟩
  have hl := subsF_len n
  simp [b_law_all_lots_f2, wipeE, h1, show (subsF n).length ≤ 100000 by omega, show (subsF n).length + (subsF n).length ≤ 100000 by omega, subsF]
theorem all_loop {s0 : Slot} : ∀ (k i : Nat) (s2 s3 : Slot), i + k ≤ 8 → ∃ t2, forM (tgN 2) (b_law_all_lots_f2 ec) ((List.range' i k).map fun j : Nat => D.int (j : Nat)) [s0, .dat (dLL (subsF i)), s2, s3] = .ret (.nx [s0, .dat (dLL (subsF (i + k))), t2, s3])
  | 0, i, s2, s3, _ => ⟨s2, rfl⟩
  | k + 1, i, s2, s3, hk => by
    obtain ⟨t2, ih⟩ := all_loop k (i + 1) (.dat (.int (i : Nat))) s3 (by omega)
    refine ⟨t2, ?_⟩
    rw [List.range'_succ, List.map_cons, forM_c rfl]
    show (b_law_all_lots_f2 ec [s0, .dat (dLL (subsF i)), .dat (.int (i : Nat)), s3]).bind _ = _
    rw [all_body (by omega), M.b_ret, loopO_n, ih, show i + 1 + k = i + (k + 1) by omega]
theorem keysP : ∀ {ls : List (List Int)} {env : Env'}, env.length = 4 → (∀ l ∈ ls, l.length ≤ 1000) → keysM asP? 3 (eTup (aCons (eB bLen (aCons (eVar 3) aNil)) (aCons (eVar 3) aNil))) env (ls.map dI) = some (ls.map keyL)
  | [], _, _, _ => rfl
  | l :: r, env, h, hz => by
    have e2 : ((eraseM env).set 3 (.dat (dI l)))[3]? = some (.dat (dI l)) := List.getElem?_set_self (by rw [eraseM_len, h]; decide)
    rw [List.map_cons, keysM]
    have e3 : eTup (aCons (eB bLen (aCons (eVar 3) aNil)) (aCons (eVar 3) aNil)) ((eraseM env).set 3 (.dat (dI l))) = .ret (.tup [.int (l.length : Nat), dI l]) := by
      simp [e2]
    rw [e3]
    show ((asInts (l.map .int)).map _).bind _ = _
    rw [asInts_map, keysP h fun l hl => hz l (List.mem_cons_of_mem _ hl)]
    rfl
theorem all_lots_eq {n : Nat} (hn : n ≤ 8) : f_law_all_lots ec [.int (n : Nat)] = .ret (dLL (allL n)) := by
  obtain ⟨t2, hl⟩ := all_loop (ec := ec) (s0 := .dat (.int (n : Nat))) n 0 .emp .emp (by omega)
  rw [← rg0, Nat.zero_add] at hl
  have hl : forM (tgN 2) (b_law_all_lots_f2 ec) ((rgD 0 (n : Nat)).map D.int) [.dat (.int (n : Nat)), .dat (.lst [.tup []]), .emp, .emp] = _ := hl
  have hz : ∀ l ∈ subsF n, l.length ≤ 1000 := fun l h => by have := asc_len (subsF_mem.mp h) (by omega); omega
  have hs : eSortK lexP (0, []) asP? 3 (eVar 1) (eTup (aCons (eB bLen (aCons (eVar 3) aNil)) (aCons (eVar 3) aNil))) [.dat (.int (n : Nat)), .dat (dLL (subsF n)), t2, .emp] = .ret (dLL (allL n)) := by
    show (ofO (keysM asP? 3 _ _ ((subsF n).map dI)) _ : M D) = _
    rw [keysP rfl hz]
    show M.ret (D.lst (sortD lexP _ ((subsF n).map dI))) = _
    rw [sortD_map (lt := lexP) keyL dI (subsF n) fun i x hx => by
      show ((subsF n).map keyL).getD i (0, []) = _
      rw [List.getD_eq_getElem?_getD, List.getElem?_map, hx]; rfl]
    rfl
  simp [-List.map_map, f_law_all_lots, b_law_all_lots, smI_of (show -1000000 ≤ (n : Int) ∧ (n : Int) ≤ 1000000 by omega), hl, hs]
end K41

set_option Elab.async false
set_option linter.all false
set_option maxRecDepth 100000
set_option maxHeartbeats 4000000
/-! The law's draws of lots, right ones and bent ones. -/
namespace K41
open PySem PySem.Spec PyProof.Rows L2 LamX C8 Fx KH
variable {ec : Ec} {z : Zw} {S : Addr} {c : Nat} {X : PX}
/-- a lot that is none -/
def badItem (many : Int) (x : D) : Prop := itemOk x ∧ okLotD many x = false
theorem itemT {es : List D} (h : es.length ≤ 1000) (he : ∀ e ∈ es, tyd e) : itemOk (.tup es) := ⟨by simp [tyd], fun fs e => by cases e; exact ⟨h, he⟩⟩
theorem itemF {x : D} (h : tyd x) (hx : ∀ es, x ≠ .tup es) : itemOk x := ⟨h, fun es e => absurd e (hx es)⟩
def badsL (many : Int) : List D := [.non, .lst [.int 0], .tup [.int many], .tup [.int (-1)], .tup [.int 0, .int 0], .tup [.bl true], .tup [.str "0"], .int 0, .dic [], .str "0"]
theorem bads_ok {many : Int} (h : 1 ≤ many) : ∀ e ∈ badsL many ++ (if 1 < many then [.tup [.int 1, .int 0]] else []), badItem many e := by
  intro e he
  have ty : ∀ {es : List D}, (∀ e ∈ es, tyd e) → es.length ≤ 1000 → itemOk (.tup es) := fun h1 h2 => itemT h2 h1
  rcases List.mem_append.mp he with he | he
  · simp only [badsL, List.mem_cons, List.mem_nil_iff, or_false] at he
    rcases he with rfl | rfl | rfl | rfl | rfl | rfl | rfl | rfl | rfl | rfl
    · exact ⟨itemF (by simp [tyd]) (by simp), rfl⟩
    · exact ⟨itemF (by simp [tyd]) (by simp), rfl⟩
    · exact ⟨ty (by simp [tyd]) (by simp), by simp [okLotD, btw]⟩
    · exact ⟨ty (by simp [tyd]) (by simp), by simp [okLotD, btw]⟩
    · exact ⟨ty (by simp [tyd]) (by simp), by simp [okLotD, btw, ltD]⟩
    · exact ⟨ty (by simp [tyd]) (by simp), by simp [okLotD, btw]⟩
    · exact ⟨ty (by simp [tyd]) (by simp), by simp [okLotD, btw]⟩
    · exact ⟨itemF (by simp [tyd]) (by simp), rfl⟩
    · exact ⟨itemF (by simp [tyd]) (by simp), rfl⟩
    · exact ⟨itemF (by simp [tyd]) (by simp), rfl⟩
  · split at he
    · rw [List.mem_singleton.mp he]
      exact ⟨ty (by simp [tyd]) (by simp), by simp [okLotD, ltD]⟩
    · cases he
/-- bent lots, and what is refused -/
inductive Bent (many : Int) (lots : List (List Int)) : D → D → Prop
  | item (b : Bool) (k : Nat) (x : D) (hk : k < lots.length) (hx : badItem many x) : Bent many lots (dS b ((lots.map dI).set k x)) (.int (k : Nat))
  | no (x : D) (h : tyd x) (h2 : isSq x = false ∨ ∃ b es, x = dS b es ∧ 400 < es.length) : Bent many lots x .non
theorem itemOk_dI {l : List Int} (h : l.length ≤ 1000) : itemOk (dI l) := itemT (by rw [List.length_map]; exact h) fun e he => by obtain ⟨g, _, rfl⟩ := List.mem_map.mp he; simp [tyd]
theorem seq_ty {b : Bool} {es : List D} : tyd (dS b es) := by cases b <;> simp [tyd, dS]
theorem dS_ne {b : Bool} {es : List D} : noRaw (dS b es) = true := by cases b <;> rfl
def many401 : List D := (List.replicate (Int.toNat 401) [D.tup []]).flatten
theorem mul401 : oMul (.lst [.tup []]) (.int 401) = .ret (.lst many401) := ifM_pos (by decide)
theorem len401 : 400 < many401.length := by
  unfold many401
  rw [List.length_flatten, List.map_replicate, List.sum_replicate_nat]
  decide
theorem bent_s1 {many : Int} {lots : List (List Int)} {s5 : Slot} {k : Nat} {x : D} {P : Out → Nat → Prop} (hS : z.isS S) (hk : k < lots.length) (hx : badItem many x) (h1 : lots.length ≤ 300) (hc : c ≤ 200000) (h : ∀ odd spot c', c' ≤ c + 2 → Bent many lots odd spot → P (.rt (.tup [odd, spot])) c') :
    wpM z (b_law_bent_lots_s1 ec [.dat (.raw (.ref S)), .dat (.int many), .dat (dLL lots), .mu ((lots.map dI).set k x), .dat (.int (k : Nat)), s5]) c P X := by
  simp [-List.map_map, b_law_bent_lots_s1]
  refine wp_draw hS (by omega) (by omega) (by omega) fun y y0 y1 => ?_
  by_cases hy : 0 < y
  · simp [hy]
    refine wpM_bind.mpr (pick_wp hS (by simp) (by simp) (by omega) fun e he => ?_)
    simp only [List.mem_cons, List.mem_nil_iff, or_false] at he
    rcases he with rfl | rfl
    · exact h _ _ _ (by omega) (.item false k x hk hx)
    · exact h _ _ _ (by omega) (.item true k x hk hx)
  · simp [hy, -oMul_l, mul401]
    refine wpM_bind.mpr (pick_wp hS (by simp) (by simp) (by omega) fun e he => ?_)
    simp only [List.mem_cons, List.mem_nil_iff, or_false] at he
    refine h _ _ _ (by omega) (.no e ?_ ?_)
    · rcases he with rfl | rfl | rfl | rfl | rfl <;> simp [tyd]
    · rcases he with rfl | rfl | rfl | rfl | rfl
      · exact .inl rfl
      · exact .inl rfl
      · exact .inl rfl
      · exact .inl rfl
      · exact .inr ⟨false, _, rfl, len401⟩
theorem bent_s2 {many : Int} {lots : List (List Int)} {some : List D} {k : Nat} {P : Out → Nat → Prop} (hS : z.isS S) (hk : k < lots.length) (hs : ∀ e ∈ some, badItem many e) (h0 : 0 < some.length ∧ some.length ≤ 100) (h1 : lots.length ≤ 300) (hc : c ≤ 100000) (h : ∀ odd spot c', c' ≤ c + 3 → Bent many lots odd spot → P (.rt (.tup [odd, spot])) c') :
    wpM z (b_law_bent_lots_s2 ec [.dat (.raw (.ref S)), .dat (.int many), .dat (dLL lots), .mu (lots.map dI), .dat (.int (k : Nat)), .mu some]) c P X := by
  simp [-List.map_map, b_law_bent_lots_s2]
  refine wpM_bind.mpr (pick_wp hS h0.1 (by omega) (by omega) fun e he => ?_)
  simp [hk]
  exact bent_s1 hS hk (hs e he) h1 (by omega) fun odd spot c' hc' hb => h odd spot c' (by omega) hb
theorem bent_wp {many : Int} {lots : List (List Int)} {P : D → Nat → Prop} (hm : 1 ≤ many) (hS : z.isS S) (h0 : lots ≠ []) (h1 : lots.length ≤ 300) (hc : c ≤ 90000) (h : ∀ odd spot c', c' ≤ c + 4 → Bent many lots odd spot → P (.tup [odd, spot]) c') : wpM z (f_law_bent_lots ec [.raw (.ref S), .int many, dLL lots]) c P X := by
  have hpos : 0 < lots.length := List.length_pos_iff.mpr h0
  have hb := bads_ok hm
  simp [-List.map_map, f_law_bent_lots, b_law_bent_lots, b_law_bent_lots_s4]
  refine wp_draw hS (by omega) (by omega) (by omega) fun x x0 x1 => ?_
  obtain ⟨k, rfl⟩ := Int.eq_ofNat_of_zero_le x0
  have hk : k < lots.length := by omega
  by_cases hm1 : 1 < many
  · simp [-List.map_map, b_law_bent_lots_s3, hm1]
    rw [if_pos hm1] at hb
    exact wpM_bind.mpr (bent_s2 hS hk hb (by simp [badsL]) h1 (by omega) fun odd spot c' hc' hq => h odd spot c' (by omega) hq)
  · simp [-List.map_map, b_law_bent_lots_s3, hm1]
    rw [if_neg hm1, List.append_nil] at hb
    exact wpM_bind.mpr (bent_s2 hS hk hb (by simp [badsL]) h1 (by omega) fun odd spot c' hc' hq => h odd spot c' (by omega) hq)
/-! ### drawn lots -/
theorem lots_s3 {many : Int} {acc : List (List Int)} {s3 s8 : Slot} {one two way : Int} {lot : List Int} {P : Out → Nat → Prop} (hS : z.isS S) (hm : 1 ≤ many ∧ many ≤ 8) (hl : acc.length ≤ 100) (h1 : 0 ≤ one ∧ one < many) (h2 : 0 ≤ two ∧ two < many) (ha : Asc many lot) (hc : c ≤ 100000)
    (h : ∀ l c' s7 s8, c' ≤ c + 1 → Asc many l → P (.nx [.dat (.raw (.ref S)), .dat (.int many), .mu ((acc ++ [l]).map dI), s3, .dat (.int one), .dat (.int two), .dat (.int way), s7, s8]) c') :
    wpM z (b_law_drawn_lots_s3 ec [.dat (.raw (.ref S)), .dat (.int many), .mu (acc.map dI), s3, .dat (.int one), .dat (.int two), .dat (.int way), .dat (dLI lot), s8]) c P X := by
  -- the lot, as it stands behind the ifs
  have app : ∀ (lot : List Int) (s8 : Slot), Asc many lot → wpM z (sApp 2 (eB bTuple (aCons (eIf (bOr (bV (eOp oNe (eVar 7) (frzM (nLst aNil)))) (bV (eOp oEq (eCall drawF (aCons (eVar 0) (aCons (eC (.int 6)) aNil))) (eC (.int 0))))) (eVar 7) (frzM (nLst (aCons (eVar 4) aNil)))) aNil)) [.dat (.raw (.ref S)), .dat (.int many), .mu (acc.map dI), s3, .dat (.int one), .dat (.int two), .dat (.int way), .dat (dLI lot), s8]) c P X := by
    intro lot s8 ha
    cases lot with
    | cons x r =>
      simp [show acc.length < 100000 by omega]
      have := h (x :: r) c (.dat (dLI (x :: r))) s8 (by omega) ha
      rw [List.map_append] at this
      exact this
    | nil =>
      simp
      refine wp_draw hS (by omega) (by omega) (by omega) fun y y0 y1 => ?_
      by_cases hy : y = 0
      · simp [hy, show acc.length < 100000 by omega]
        have := h [] (c + 1) (.dat (dLI [])) s8 (by omega) ha
        rw [List.map_append] at this
        exact this
      · simp [hy, show acc.length < 100000 by omega]
        have := h [one] (c + 1) (.dat (dLI [])) s8 (by omega) ⟨List.pairwise_singleton _ _, fun g hg => by rw [List.mem_singleton.mp hg]; exact h1⟩
        rw [List.map_append] at this
        exact this
  rw [b_law_drawn_lots_s3, sSeq_x]
  refine wpM_bind.mpr ?_
  by_cases hw : way = 0
  · have e1 : min one two ≤ 100 ∧ 0 ≤ min one two ∧ max one two ≤ 100 ∧ 0 ≤ max one two := by omega
    simp [hw, tinyI_of (show 0 ≤ min one two ∧ min one two ≤ 10000 by omega), tinyI_of (show 0 ≤ max one two + 1 ∧ max one two + 1 ≤ 10000 by omega)]
    subst hw
    exact app (rgD (min one two) (max one two + 1)) s8 ⟨rgD_asc, fun g hg => by have := rgD_mem.mp hg; omega⟩
  · by_cases hw1 : way = 1
    · have h3 : lcM (tgN 8) (b_law_drawn_lots_t2 ec) (eVar 8) [.dat (.raw (.ref S)), .dat (.int many), .mu (acc.map dI), s3, .dat (.int one), .dat (.int two), .dat (.int way), .dat (dLI lot), .emp] ((rgD 0 many).map .int) = .ret (((rgD 0 many).filter fun g => decide (one ≤ g) || decide (g ≤ two)).map .int) := lcM_of _ _ _ fun g hg => ⟨_, rfl, by simp [b_law_drawn_lots_t2], fun _ => rfl⟩
      have h4 : (rgD 0 many).length ≤ 100000 := by unfold rgD; rw [List.length_map, List.length_range]; omega
      subst hw1
      simp [wipeE, smI_of (show -1000000 ≤ many ∧ many ≤ 1000000 by omega), h3, h4]
      exact app _ s8 ⟨List.Pairwise.sublist List.filter_sublist rgD_asc, fun g hg => rgD_mem.mp (List.mem_filter.mp hg).1⟩
    · simp [hw, hw1]
      exact app lot s8 ha
theorem lots_body' {many : Int} {acc : List (List Int)} {s3 s4 s5 s6 s7 s8 : Slot} {P : Out → Nat → Prop} (hS : z.isS S) (hm : 1 ≤ many ∧ many ≤ 8) (hl : acc.length ≤ 100) (hc : c ≤ 90000)
    (h : ∀ l c' s4 s5 s6 s7 s8, c' ≤ c + 12 → Asc many l → P (.nx [.dat (.raw (.ref S)), .dat (.int many), .mu ((acc ++ [l]).map dI), s3, s4, s5, s6, s7, s8]) c') :
    wpM z (b_law_drawn_lots_f5 ec [.dat (.raw (.ref S)), .dat (.int many), .mu (acc.map dI), s3, s4, s5, s6, s7, s8]) c P X := by
  simp [b_law_drawn_lots_f5]
  refine wp_draw hS (by omega) (by omega) (by omega) fun one o0 o1 => ?_
  refine wp_draw hS (by omega) (by omega) (by omega) fun two t0 t1 => ?_
  refine wp_draw hS (by omega) (by omega) (by omega) fun way w0 w1 => ?_
  have h4 : (rgD 0 many).length = many.toNat := by unfold rgD; rw [List.length_map, List.length_range, Int.sub_zero]
  simp [sAsg, asgO, tgT, tgs, b_law_drawn_lots_s4, wipeE, smI_of (show -1000000 ≤ many ∧ many ≤ 1000000 by omega), h4, show many ≤ 100000 by omega]
  refine wpM_bind.mpr (wp_lc_sub (z := z) D.int D.int 1 1000000 (xs := rgD 0 many) (fun g hg => ⟨_, rfl, rfl, fun c' Pb hc' hb => ?_⟩) (by omega) fun ys c' hs h1 h2 => ?_)
  · simp [b_law_drawn_lots_t1]
    exact wp_draw hS (by omega) (by omega) (by omega) fun y y0 y1 => hb _ _ (by omega) (by omega)
  · exact lots_s3 hS hm hl ⟨o0, o1⟩ ⟨t0, t1⟩ ⟨List.Pairwise.sublist hs rgD_asc, fun g hg => rgD_mem.mp (hs.subset hg)⟩ (by omega) fun l c'' s7 s8 hc'' hl => h l c'' _ _ _ _ _ (by omega) hl
theorem lots_loop {many : Int} {P : Out → Nat → Prop} (hS : z.isS S) (hm : 1 ≤ many ∧ many ≤ 8) : ∀ (is : List D) (acc : List (List Int)) (c : Nat) (s3 s4 s5 s6 s7 s8 : Slot), acc.length + is.length ≤ 7 → c + 12 * is.length ≤ 90000 → (∀ l ∈ acc, Asc many l) →
    (∀ (lots : List (List Int)) c' s3 s4 s5 s6 s7 s8, lots.length ≤ 7 → c' ≤ c + 12 * is.length → (∀ l ∈ lots, Asc many l) → P (.nx [.dat (.raw (.ref S)), .dat (.int many), .mu (lots.map dI), s3, s4, s5, s6, s7, s8]) c') →
    wpM z (forM (tgN 3) (b_law_drawn_lots_f5 ec) is [.dat (.raw (.ref S)), .dat (.int many), .mu (acc.map dI), s3, s4, s5, s6, s7, s8]) c P X
  | [], acc, c, s3, s4, s5, s6, s7, s8, hl, _, ha, h => h acc c _ _ _ _ _ _ (by simpa using hl) (by simp) ha
  | i :: is, acc, c, s3, s4, s5, s6, s7, s8, hl, hc, ha, h => by
    rw [List.length_cons] at hl hc
    rw [forM_c rfl]
    refine wpM_bind.mpr (lots_body' hS hm (by omega) (by omega) fun l c' s4 s5 s6 s7 s8 hc' hl' => ?_)
    refine lots_loop hS hm is (acc ++ [l]) c' _ _ _ _ _ _ (by simp; omega) (by omega) (fun m hm => ?_) fun lots c'' t3 t4 t5 t6 t7 t8 h1 h2 h3 => h lots c'' _ _ _ _ _ _ h1 (by simp; omega) h3
    rcases List.mem_append.mp hm with hm | hm
    · exact ha m hm
    · rw [List.mem_singleton.mp hm]; exact hl'
theorem drawn_wp {many : Int} {P : D → Nat → Prop} (hS : z.isS S) (hm : 1 ≤ many ∧ many ≤ 8) (hc : c ≤ 80000) (h : ∀ (lots : List (List Int)) c', lots.length ≤ 7 → c' ≤ c + 100 → (∀ l ∈ lots, Asc many l) → P (dLL lots) c') : wpM z (f_law_drawn_lots ec [.raw (.ref S), .int many]) c P X := by
  simp [f_law_drawn_lots, b_law_drawn_lots, b_law_drawn_lots_s6, -List.map_map]
  refine wp_draw hS (by omega) (by omega) (by omega) fun n n0 n1 => ?_
  have h4 : ((rgD 0 n).map D.int).length ≤ 7 := by unfold rgD; rw [List.length_map, List.length_map, List.length_range]; omega
  rw [smI_of (by omega), if_pos rfl, M.b_ret]
  refine wpM_bind.mpr (lots_loop hS hm ((rgD 0 n).map .int) [] (c + 1) _ _ _ _ _ _ (by simpa using h4) (by omega) (fun l h => by cases h) fun lots c' s3 s4 s5 s6 s7 s8 h1 h2 h3 => ?_)
  exact h lots c' h1 (by omega) h3
end K41

set_option Elab.async false
set_option linter.all false
set_option maxRecDepth 100000
set_option maxHeartbeats 4000000
/-! The law. -/
namespace K41
open PySem PySem.Spec PyProof.Rows L2 LamX C8 Fx KH
variable {ec : Ec} {z : Zw} {S sa : Addr} {c : Nat} {X : PX}
/-! ### the first set of gaps that hits -/
theorem lexLe_of : ∀ {x y : List Int}, HT.lexLt y x = false → lexLe x y
  | [], _, _ => trivial
  | _ :: _, [], h => by cases h
  | a :: x, b :: y, h => by
    have h : (if b = a then HT.lexLt y x else decide (b < a)) = false := h
    by_cases e : b = a
    · rw [if_pos e] at h; exact .inr ⟨e.symm, lexLe_of h⟩
    · rw [if_neg e] at h; exact .inl (by have := of_decide_eq_false h; omega)
theorem first_hit {n : Nat} {lots : List (List Int)} (hn : 1 ≤ n ∧ n ≤ 8) (ha : ∀ l ∈ lots, Asc n l) : (allL n).find? (hitB lots) = if [] ∈ lots then none else some (leastF n lots) := by
  have hmem : ∀ l, l ∈ allL n ↔ Asc n l := fun l => ((isort_perm _ _).mem_iff).trans subsF_mem
  by_cases h : [] ∈ lots
  · rw [if_pos h, List.find?_eq_none]
    intro l _ hh
    obtain ⟨g, hg, _⟩ := (hitB_iff.mp hh) [] h
    cases hg
  · rw [if_neg h]
    have ok : Lots n lots := ⟨by omega, ha, h⟩
    have full : Hits (rgD 0 n) lots := fun l hl => by
      obtain ⟨g, hg⟩ := ok.ne hl
      exact ⟨g, hg, rgD_mem.mpr ((ha l hl).2 g hg)⟩
    cases hf : (allL n).find? (hitB lots) with
    | none =>
      have := List.find?_eq_none.mp hf (rgD 0 n) ((hmem _).mpr ⟨rgD_asc, fun g hg => rgD_mem.mp hg⟩)
      exact absurd (hitB_iff.mpr full) this
    | some r =>
      obtain ⟨hr, as, bs, e, hb⟩ := List.find?_eq_some_iff_append.mp hf
      have hs := isort_srtd (lt := fun x y => lexP (keyL x) (keyL y)) { asym := fun a b => swo_lexP.asym _ _, tr := fun a b d => swo_lexP.tr _ _ _ } (subsF n)
      have hs : SrtO.Srtd (fun x y => lexP (keyL x) (keyL y)) (allL n) := hs
      rw [e] at hs
      have hs := hs
      have after : ∀ s ∈ bs, lexP (keyL s) (keyL r) = false := fun s hs' => (List.pairwise_cons.mp (List.pairwise_append.mp hs).2.1).1 s hs'
      have key : ∀ s, Asc n s → Hits s lots → lexP (keyL s) (keyL r) = false := fun s h1 h2 => by
        have hm := (hmem s).mpr h1
        rw [e] at hm
        rcases List.mem_append.mp hm with hm | hm
        · have := hb s hm
          rw [hitB_iff.mpr h2] at this
          cases this
        · rcases List.mem_cons.mp hm with rfl | hm
          · exact swo_lexP.refl _
          · exact after s hm
      have ra : Asc n r := (hmem r).mp (by rw [e]; simp)
      have cmp : ∀ s, Asc n s → Hits s lots → r.length ≤ s.length ∧ (s.length = r.length → lexLe r s) := fun s h1 h2 => by
        have := key s h1 h2
        have this : (if (s.length : Int) = (r.length : Int) then HT.lexLt s r else decide ((s.length : Int) < (r.length : Int))) = false := this
        by_cases el : (s.length : Int) = (r.length : Int)
        · rw [if_pos el] at this
          exact ⟨by omega, fun _ => lexLe_of this⟩
        · rw [if_neg el] at this
          have := of_decide_eq_false this
          exact ⟨by omega, fun z => absurd (by omega) el⟩
      have isl : IsL n lots r := ⟨ra, hitB_iff.mp hr, fun s hs => by
        -- what lies below n, in order
        obtain ⟨t, t1, t2, t3, t4⟩ := dedup (s.filter fun x => decide (0 ≤ x ∧ x < (n : Int)))
        have hh : Hits (isI t) lots := fun l hl => by
          obtain ⟨g, g1, g2⟩ := hs l hl
          exact ⟨g, g1, isI_mem.mpr ((t2 g).mpr (List.mem_filter.mpr ⟨g2, decide_eq_true ((ha l hl).2 g g1)⟩))⟩
        have := (cmp (isI t) ⟨isI_lt t1, fun g hg => of_decide_eq_true (List.mem_filter.mp ((t2 g).mp (isI_mem.mp hg))).2⟩ hh).1
        have h3 := (isI_perm t).length_eq
        have h4 := List.length_filter_le (fun x => decide (0 ≤ x ∧ x < (n : Int))) s
        omega, fun s h1 h2 h3 => (cmp s h1 h2).2 h3⟩
      rw [IsL.eq ok isl]
/-- the due answer -/
def dueD (n : Nat) (lots : List (List Int)) : D := if [] ∈ lots then .non else dI (leastF n lots)
abbrev find (lots : List (List Int)) (due : D) (ls : List (List Int)) : D := if isN due = true then (match ls.find? (hitB lots) with | none => .non | some r => dI r) else due
theorem find_loop {lots : List (List Int)} (hz : SzOk lots) (s0 s1 s2 s3 s5 s8 s9 s10 s11 s12 : Slot) : ∀ (ls : List (List Int)) (due : D) (s7 : Slot), (due = .non ∨ ∃ r, due = dI r) → ∃ t7, forM (tgN 7) (b_law_f1 ec) (ls.map dI) [s0, s1, s2, s3, .dat (dLL lots), s5, .dat due, s7, s8, s9, s10, s11, s12] = .ret (.nx [s0, s1, s2, s3, .dat (dLL lots), s5, .dat (find lots due ls), t7, s8, s9, s10, s11, s12])
  | [], due, s7, hd => ⟨s7, by
    rcases hd with rfl | ⟨r, rfl⟩ <;> rfl⟩
  | l :: ls, due, s7, hd => by
    have h1 := do_hit_eq (ec := ec) (gaps := l) hz
    rcases hd with rfl | ⟨r, rfl⟩
    · cases hh : hitB lots l with
      | false =>
        obtain ⟨t7, ih⟩ := find_loop hz s0 s1 s2 s3 s5 s8 s9 s10 s11 s12 ls .non (.dat (dI l)) (.inl rfl)
        refine ⟨t7, ?_⟩
        rw [List.map_cons, forM_c rfl]
        have hb : b_law_f1 ec [s0, s1, s2, s3, .dat (dLL lots), s5, .dat .non, .dat (dI l), s8, s9, s10, s11, s12] = .ret (.nx [s0, s1, s2, s3, .dat (dLL lots), s5, .dat .non, .dat (dI l), s8, s9, s10, s11, s12]) := by simp [b_law_f1, h1, hh]
        show (b_law_f1 ec [s0, s1, s2, s3, .dat (dLL lots), s5, .dat .non, .dat (dI l), s8, s9, s10, s11, s12]).bind _ = _
        rw [hb, M.b_ret, loopO_n, ih]
        simp [find, List.find?_cons, hh]
      | true =>
        obtain ⟨t7, ih⟩ := find_loop hz s0 s1 s2 s3 s5 s8 s9 s10 s11 s12 ls (dI l) (.dat (dI l)) (.inr ⟨l, rfl⟩)
        refine ⟨t7, ?_⟩
        rw [List.map_cons, forM_c rfl]
        have hb : b_law_f1 ec [s0, s1, s2, s3, .dat (dLL lots), s5, .dat .non, .dat (dI l), s8, s9, s10, s11, s12] = .ret (.nx [s0, s1, s2, s3, .dat (dLL lots), s5, .dat (dI l), .dat (dI l), s8, s9, s10, s11, s12]) := by simp [b_law_f1, h1, hh]
        show (b_law_f1 ec [s0, s1, s2, s3, .dat (dLL lots), s5, .dat .non, .dat (dI l), s8, s9, s10, s11, s12]).bind _ = _
        rw [hb, M.b_ret, loopO_n, ih]
        simp [find, List.find?_cons, hh]
    · obtain ⟨t7, ih⟩ := find_loop hz s0 s1 s2 s3 s5 s8 s9 s10 s11 s12 ls (dI r) (.dat (dI l)) (.inr ⟨r, rfl⟩)
      refine ⟨t7, ?_⟩
      rw [List.map_cons, forM_c rfl]
      have hb : b_law_f1 ec [s0, s1, s2, s3, .dat (dLL lots), s5, .dat (dI r), .dat (dI l), s8, s9, s10, s11, s12] = .ret (.nx [s0, s1, s2, s3, .dat (dLL lots), s5, .dat (dI r), .dat (dI l), s8, s9, s10, s11, s12]) := by simp [b_law_f1]
      show (b_law_f1 ec [s0, s1, s2, s3, .dat (dLL lots), s5, .dat (dI r), .dat (dI l), s8, s9, s10, s11, s12]).bind _ = _
      rw [hb, M.b_ret, loopO_n, ih]
      simp [find]
theorem find_due {n : Nat} {lots : List (List Int)} (hn : 1 ≤ n ∧ n ≤ 8) (ha : ∀ l ∈ lots, Asc n l) : find lots .non (allL n) = dueD n lots := by
  unfold find dueD
  rw [if_pos (show isN D.non = true from rfl), first_hit hn ha]
  by_cases h : [] ∈ lots
  · rw [if_pos h, if_pos h]
  · rw [if_neg h, if_neg h]
/-! ### what is refused -/
theorem need_bent {many : Int} {lots : List (List Int)} {odd spot : D} (ok : LsOk many lots) (h : Bent many lots odd spot) : f_need_lots ec [.int many, odd] = .exc ec.BadLots [("at", spot)] := by
  cases h with
  | no _ h h2 => exact need_no ok.rng h h2
  | item b k x hk hx =>
    have hi : ∀ e ∈ (lots.map dI).set k x, itemOk e := fun e he => by
      rcases List.mem_or_eq_of_mem_set he with he | rfl
      · obtain ⟨l, hl, rfl⟩ := List.mem_map.mp he
        exact itemOk_dI (ok.sz.2 l hl)
      · exact hx.1
    have hf : ((lots.map dI).set k x).findIdx? (fun e => !okLotD many e) = some k := by
      rw [List.findIdx?_eq_some_iff_getElem]
      refine ⟨by rw [List.length_set, List.length_map]; exact hk, ?_, fun j hj => ?_⟩
      · rw [List.getElem_set_self, hx.2]; rfl
      · rw [List.getElem_set_ne (by omega), List.getElem_map, okLotD_of (ok.asc _ (List.getElem_mem _))]; simp
    rw [need_eq ok.rng (by rw [List.length_set, List.length_map]; exact ok.len) hi, hf]
theorem least_exc {m x : D} {C : Addr} {fs : List (Str × D)} (h : f_need_lots ec [m, x] = .exc C fs) : f_least_hits ec [m, x] = .exc C fs := by simp [f_least_hits, b_least_hits, h]
theorem tree_exc {m x : D} {C : Addr} {fs : List (Str × D)} (h : f_need_lots ec [m, x] = .exc C fs) : f_hit_tree ec [m, x, .non] = .exc C fs := by simp [f_hit_tree, b_hit_tree, h]
theorem is_exc {m x : D} {C : Addr} {fs : List (Str × D)} (h : f_need_lots ec [m, x] = .exc C fs) : f_is_hit_tree ec [m, x, .non, .non] = .exc C fs := by simp [f_is_hit_tree, b_is_hit_tree, h]
end K41

set_option Elab.async false
set_option linter.all false
set_option maxRecDepth 100000
set_option maxHeartbeats 4000000
/-! The law. -/
namespace K41
open PySem PySem.Spec PyProof.Rows L2 LamX C8 Fx KH
variable {ec : Ec} {z : Zw} {S sa : Addr} {c : Nat} {X : PX} {many : Int}
@[irreducible] def wq {α : Type} (z : Zw) (m : M α) (c : Nat) (P : α → Nat → Prop) (X : PX) : Prop := wpM z m c P X
theorem wq_of {α : Type} {m : M α} {P : α → Nat → Prop} (h : wpM z m c P X) : wq z m c P X := by unfold wq; exact h
theorem of_wq {α : Type} {m : M α} {P : α → Nat → Prop} (h : wq z m c P X) : wpM z m c P X := by unfold wq at h; exact h
theorem wq_eq {α : Type} {m : M α} {P : α → Nat → Prop} : wpM z m c P X = wq z m c P X := by unfold wq; rfl
theorem wq_bind {α β : Type} {m : M α} {f : α → M β} {P : β → Nat → Prop} (h : wpM z m c (fun a c2 => wq z (f a) c2 P X) X) : wpM z (m.bind f) c P X := wpM_bind.mpr (by unfold wq at h; exact h)
def wrongs : List D := [.non, .int 0, .int 17, .bl true, .str "4", .int (-1), .tup [.int 4]]
theorem wrongs_ok : ∀ w ∈ wrongs, tyd w ∧ btw 1 17 w = false := by
  intro w hw
  simp only [wrongs, List.mem_cons, List.mem_nil_iff, or_false] at hw
  rcases hw with rfl | rfl | rfl | rfl | rfl | rfl | rfl <;> exact ⟨by simp [tyd], by simp [btw]⟩
theorem repr_lots {b : Bool} {lots : List (List Int)} {n : Int} (hn : 1 ≤ n ∧ n ≤ 100) (hl : lots.length ≤ 20) (ha : ∀ l ∈ lots, Asc n l) : bRepr [dLs b lots] = .ret (.str (txt (dLs b lots))) := by
  have i1 : ∀ l ∈ lots, ∀ g ∈ l, D.sm 1 (.int g) = true := fun l hl g hg => by
    have := (ha l hl).2 g hg
    rw [sm_i]
    exact Nat.ble_eq_true_of_le (by omega)
  have i2 : ∀ d ∈ lots.map dI, D.sm 2 d = true := fun d hd => by
    obtain ⟨l, hl, rfl⟩ := List.mem_map.mp hd
    refine smL_of fun e he => ?_
    obtain ⟨g, hg, rfl⟩ := List.mem_map.mp he
    exact i1 l hl g hg
  have i3 : ∀ d ∈ lots.map dI, d.wt ≤ 10000 := fun d hd => by
    obtain ⟨l, hl, rfl⟩ := List.mem_map.mp hd
    have h1 := wtL_le (k := 40) (ds := l.map .int) fun e he => by
      obtain ⟨g, hg, rfl⟩ := List.mem_map.mp he
      rw [D.wt]; exact Nat.le_refl _
    have h2 := (asc_len (ha l hl) (by omega))
    rw [List.length_map] at h1
    show wtL _ ≤ _
    omega
  have i4 := wtL_le i3
  rw [List.length_map] at i4
  cases b with
  | false => exact bRepr_eq (n := 3) (.inr (.inr rfl)) (smL_of i2) (by decide) (by show wtL _ ≤ _; omega)
  | true => exact bRepr_eq (n := 3) (.inr (.inr rfl)) (smL_of i2) (by decide) (by show wtL _ ≤ _; omega)
theorem lcM_none {tg : D → Env' → Option Env'} {t : Env' → M Bool} {f : Env' → M D} {env : Env'} {xs : List D} (h : ∀ x ∈ xs, ∃ e, tg x env = some e ∧ t e = .ret false) : lcM tg t f env xs = .ret [] := by
  have := lcM_of (tg := tg) (t := t) (f := f) (env := env) id (fun _ => false) id (xs := xs) fun x hx => by
    obtain ⟨e, h1, h2⟩ := h x hx
    exact ⟨e, h1, h2, fun h => by cases h⟩
  rw [List.map_id] at this
  rw [this, List.filter_eq_nil_iff.mpr fun _ _ => by simp]
  rfl
theorem law_s8 {s0 s2 s3 s6 s7 s9 s10 s11 : Slot} {lots : List (List Int)} {odd w : D} {P : Out → Nat → Prop} (hw : tyd w ∧ btw 1 17 w = false) (hm : 1 ≤ many ∧ many ≤ 8) (hl : lots.length ≤ 20) (ha : ∀ l ∈ lots, Asc many l) (h : ∀ t10 t11, P (.nx [s0, .dat (.raw (.ref S)), s2, s3, .dat (dLL lots), .dat (.str (txt (dLL lots))), s6, s7, .dat odd, s9, t10, t11, .dat w]) c) :
    wq z (b_law_s8 ec [s0, .dat (.raw (.ref S)), s2, s3, .dat (dLL lots), .dat (.str (txt (dLL lots))), s6, s7, .dat odd, s9, s10, s11, .dat w]) c P X := by
  apply wq_of
  have e0 := need_many (ec := ec) (x := odd) hw.1 hw.2
  have e1 := least_exc e0
  have e2 := tree_exc e0
  have e3 := is_exc e0
  have hr : bRepr [dLL lots] = .ret (.str (txt (dLL lots))) := repr_lots (b := false) (by omega) hl ha
  have hn : lcM (tgN 11) (b_law_t4 ec) (b_law_c5 ec) [s0, .dat (.raw (.ref S)), s2, s3, .dat (dLL lots), .dat (.str (txt (dLL lots))), s6, s7, .dat odd, s9, .dat (.lst [.exc ec.BadMany [], .exc ec.BadMany [], .exc ec.BadMany []]), .emp, .dat w] [.exc ec.BadMany [], .exc ec.BadMany [], .exc ec.BadMany []] = .ret [] := lcM_none fun x hx => by
    simp only [List.mem_cons, List.mem_nil_iff, or_false, or_self] at hx
    subst hx
    exact ⟨_, rfl, by simp [b_law_t4]⟩
  simp [b_law_s8, b_law_s7, b_law_s6, e1, e2, e3, wipeE, hn, hr]
  exact h _ _
theorem law_s9 {s0 s2 s3 s6 s7 s9 s10 s11 s12 : Slot} {lots : List (List Int)} {odd : D} {P : Out → Nat → Prop} (hS : z.isS S) (hc : c ≤ 100000) (hm : 1 ≤ many ∧ many ≤ 8) (hl : lots.length ≤ 20) (ha : ∀ l ∈ lots, Asc many l) (h : ∀ t10 t11 t12, P (.nx [s0, .dat (.raw (.ref S)), s2, s3, .dat (dLL lots), .dat (.str (txt (dLL lots))), s6, s7, .dat odd, s9, t10, t11, t12]) (c + 1)) :
    wq z (b_law_s9 ec [s0, .dat (.raw (.ref S)), s2, s3, .dat (dLL lots), .dat (.str (txt (dLL lots))), s6, s7, .dat odd, s9, s10, s11, s12]) c P X := by
  apply wq_of
  simp [b_law_s9]
  refine wq_bind (pick_wp hS (by simp) (by simp) (by omega) fun w hw => ?_)
  exact law_s8 (wrongs_ok w hw) hm hl ha fun t10 t11 => h t10 t11 (.dat w)
theorem txt_spot {lots : List (List Int)} {odd spot : D} (hl : lots.length ≤ 20) (h : Bent many lots odd spot) : bRepr [spot] = .ret (.str (txt spot)) := by
  cases h with
  | item b k x hk hx => exact bRepr_eq (n := 1) (.inr (.inl ⟨_, rfl⟩)) (by rw [sm_i]; exact Nat.ble_eq_true_of_le (by omega)) (by decide) (by rw [D.wt]; omega)
  | no _ h h2 => exact bRepr_eq (n := 1) (.inl rfl) rfl (by decide) (by rw [D.wt]; exact Nat.zero_le _; all_goals simp)
theorem law_s13 {s0 s2 s6 s7 s10 s11 s12 : Slot} {lots blots : List (List Int)} {odd spot : D} {P : Out → Nat → Prop} (hS : z.isS S) (hc : c ≤ 100000) (hm : 1 ≤ many ∧ many ≤ 8) (hl : lots.length ≤ 20) (ha : ∀ l ∈ lots, Asc many l) (ob : LsOk many blots) (hlb : blots.length ≤ 20) (hb : Bent many blots odd spot) (h : ∀ t10 t11 t12, P (.nx [s0, .dat (.raw (.ref S)), s2, .dat (.int many), .dat (dLL lots), .dat (.str (txt (dLL lots))), s6, s7, .dat odd, .dat spot, t10, t11, t12]) (c + 1)) :
    wq z (b_law_s13 ec [s0, .dat (.raw (.ref S)), s2, .dat (.int many), .dat (dLL lots), .dat (.str (txt (dLL lots))), s6, s7, .dat odd, .dat spot, s10, s11, s12]) c P X := by
  apply wq_of
  have e0 := need_bent (ec := ec) ob hb
  have e1 := least_exc e0
  have e2 := tree_exc e0
  have e3 := is_exc e0
  have hr := txt_spot hlb hb
  have hn : lcM (tgN 11) (b_law_t2 ec) (b_law_c3 ec) [s0, .dat (.raw (.ref S)), s2, .dat (.int many), .dat (dLL lots), .dat (.str (txt (dLL lots))), s6, s7, .dat odd, .dat spot, .dat (.lst [.exc ec.BadLots [("at", spot)], .exc ec.BadLots [("at", spot)], .exc ec.BadLots [("at", spot)]]), .emp, s12] [.exc ec.BadLots [("at", spot)], .exc ec.BadLots [("at", spot)], .exc ec.BadLots [("at", spot)]] = .ret [] := lcM_none fun x hx => by
    simp only [List.mem_cons, List.mem_nil_iff, or_false, or_self] at hx
    subst hx
    exact ⟨_, rfl, by simp [b_law_t2, hr]⟩
  simp [b_law_s13, b_law_s12, b_law_s11, b_law_s10, e1, e2, e3, wipeE, hn]
  rw [wq_eq]
  exact law_s9 hS hc hm hl ha h
/-- what is spoiled: the lots, and one lot more -/
theorem bad_ok {lots : List (List Int)} (hm : 1 ≤ many ∧ many ≤ 8) (hl : lots.length ≤ 7) (ha : ∀ l ∈ lots, Asc many l) : LsOk many (lots ++ [[0]]) := ⟨by omega, by simp; omega, fun l h => by
  rcases List.mem_append.mp h with h | h
  · exact ha l h
  · rw [List.mem_singleton.mp h]; exact ⟨List.pairwise_singleton _ _, fun g hg => by rw [List.mem_singleton.mp hg]; omega⟩⟩
theorem law_s14 {s0 s2 s6 s7 s8 s9 s10 s11 s12 : Slot} {lots : List (List Int)} {P : Out → Nat → Prop} (hS : z.isS S) (hc : c ≤ 10000) (hm : 1 ≤ many ∧ many ≤ 8) (hl : lots.length ≤ 7) (ha : ∀ l ∈ lots, Asc many l) (h : ∀ t8 t9 t10 t11 t12 c', c' ≤ c + 6 → P (.nx [s0, .dat (.raw (.ref S)), s2, .dat (.int many), .dat (dLL lots), .dat (.str (txt (dLL lots))), s6, s7, t8, t9, t10, t11, t12]) c') :
    wq z (b_law_s14 ec [s0, .dat (.raw (.ref S)), s2, .dat (.int many), .dat (dLL lots), .dat (.str (txt (dLL lots))), s6, s7, s8, s9, s10, s11, s12]) c P X := by
  apply wq_of
  have ob := bad_ok hm hl ha
  have e : lots.map dI ++ [.tup [.int 0]] = (lots ++ [[0]]).map dI := by rw [List.map_append]; rfl
  simp [b_law_s14, sAsg, asgO, tgT, tgs, show lots.length + 1 ≤ 100000 by omega, e, -List.map_append]
  refine wq_bind (bent_wp (by omega) hS (by simp) (by simp; omega) (by omega) fun odd spot c' hc' hb => ?_)
  simp [tgs, tgN, Option.bind]
  exact law_s13 hS (by omega) hm (by omega) ha ob (by simp; omega) hb fun t10 t11 t12 => h _ _ _ _ _ _ (by omega)
theorem due_ok {lots : List (List Int)} (hm : 1 ≤ many ∧ many ≤ 8) (hl : lots.length ≤ 7) (ha : ∀ l ∈ lots, Asc many l) : LsOk many lots := ⟨by omega, by omega, ha⟩
theorem repr_due {lots : List (List Int)} {m : Nat} (hm : 1 ≤ m ∧ m ≤ 8) (hl : lots.length ≤ 7) (ha : ∀ l ∈ lots, Asc m l) : bRepr [.lst [dueD m lots, dueD m lots]] = .ret (.str (txt (.lst [dueD m lots, dueD m lots]))) := by
  have h1 : ∀ d ∈ [dueD m lots, dueD m lots], D.sm 2 d = true ∧ d.wt ≤ 10000 := fun d hd => by
    have e : d = dueD m lots := by simpa using hd
    subst e
    unfold dueD
    by_cases hn : [] ∈ lots
    · rw [if_pos hn]; exact ⟨by simp, by rw [D.wt]; exact Nat.zero_le _; all_goals simp⟩
    · rw [if_neg hn]
      have L : Lots m lots := (due_ok (by omega) hl ha).lots hn
      have hr := (least_spec L).2.2.1
      have h4 := asc_len hr (by omega)
      refine ⟨smL_of fun e he => ?_, ?_⟩
      · obtain ⟨g, hg, rfl⟩ := List.mem_map.mp he
        have := hr.2 g hg
        rw [sm_i]
        exact Nat.ble_eq_true_of_le (by omega)
      · have h1 := wtL_le (k := 40) (ds := (leastF m lots).map .int) fun e he => by
          obtain ⟨g, hg, rfl⟩ := List.mem_map.mp he
          rw [D.wt]; exact Nat.le_refl _
        rw [List.length_map] at h1
        show wtL _ ≤ _
        omega
  have h2 := wtL_le fun d hd => (h1 d hd).2
  exact bRepr_eq (n := 3) (.inr (.inr rfl)) (smL_of fun d hd => (h1 d hd).1) (by decide) (by show wtL _ ≤ _; simp at h2 ⊢; omega)
theorem law_s16 {s0 s2 s7 s8 s9 s10 s11 s12 : Slot} {lots : List (List Int)} {m : Nat} {P : Out → Nat → Prop} (hS : z.isS S) (hc : c ≤ 10000) (hm : 1 ≤ m ∧ m ≤ 8) (hl : lots.length ≤ 7) (ha : ∀ l ∈ lots, Asc m l) (h : ∀ t7 t8 t9 t10 t11 t12 c', c' ≤ c + 6 → P (.nx [s0, .dat (.raw (.ref S)), s2, .dat (.int (m : Nat)), .dat (dLL lots), .dat (.str (txt (dLL lots))), .dat (dueD m lots), t7, t8, t9, t10, t11, t12]) c') :
    wq z (b_law_s16 ec [s0, .dat (.raw (.ref S)), s2, .dat (.int (m : Nat)), .dat (dLL lots), .dat (.str (txt (dLL lots))), .dat (dueD m lots), s7, s8, s9, s10, s11, s12]) c P X := by
  apply wq_of
  have L := due_ok (by omega) hl ha
  have e1 : f_least_hits ec [.int (m : Nat), dLL lots] = .ret (dueD m lots) := least_hits_eq (b := false) L
  have e2 : f_least_hits ec [.int (m : Nat), .tup (lots.map dI)] = .ret (dueD m lots) := least_hits_eq (b := true) L
  have e3 := repr_due hm hl ha
  have e4 : inM (.tup []) (dLL lots) = .ret (decide ([] ∈ lots)) := nil_in (b := false)
  have e5 : isN (dueD m lots) = decide ([] ∈ lots) := by
    unfold dueD
    by_cases hn : [] ∈ lots <;> simp [hn]
  have e6 : noRaw (dueD m lots) = true := by
    unfold dueD
    by_cases hn : [] ∈ lots <;> simp [hn]
  simp [b_law_s16, b_law_s15, e1, e2, e3, -inM_l, e4, e5, e6]
  rw [wq_eq]
  exact law_s14 hS hc (by omega) hl ha fun t8 t9 t10 t11 t12 c' hc' => h _ _ _ _ _ _ _ hc'
end K41

set_option Elab.async false
set_option linter.all false
set_option maxRecDepth 100000
set_option maxHeartbeats 400000
/-! The law: its turns. -/
namespace K41
open PySem PySem.Spec PyProof.Rows L2 LamX C8 Fx KH
variable {ec : Ec} {z : Zw} {S sa : Addr} {c : Nat} {X : PX} {many : Int}
theorem law_s19 {s0 s2 s4 s5 s6 s7 s8 s9 s10 s11 s12 : Slot} {m : Nat} {P : Out → Nat → Prop} (hS : z.isS S) (hc : c ≤ 5000) (hm : 1 ≤ m ∧ m ≤ 8) (h : ∀ t4 t5 t6 t7 t8 t9 t10 t11 t12 c', c' ≤ c + 110 → P (.nx [s0, .dat (.raw (.ref S)), s2, .dat (.int (m : Nat)), t4, t5, t6, t7, t8, t9, t10, t11, t12]) c') :
    wq z (b_law_s19 ec [s0, .dat (.raw (.ref S)), s2, .dat (.int (m : Nat)), s4, s5, s6, s7, s8, s9, s10, s11, s12]) c P X := by
  apply wq_of
  simp [b_law_s19]
  refine wq_bind (drawn_wp hS (by omega) (by omega) fun lots c' hl hc' ha => ?_)
  have hr : bRepr [dLL lots] = .ret (.str (txt (dLL lots))) := repr_lots (b := false) (by omega) (by omega) ha
  have hz : SzOk lots := (due_ok (by omega) hl ha).sz
  obtain ⟨t7, hf⟩ := find_loop (ec := ec) hz s0 (.dat (.raw (.ref S))) s2 (.dat (.int (m : Nat))) (.dat (.str (txt (dLL lots)))) s8 s9 s10 s11 s12 (allL m) .non s7 (.inl rfl)
  rw [find_due hm ha] at hf
  simp [b_law_s18, b_law_s17, hr, all_lots_eq (ec := ec) hm.2, hf]
  exact law_s16 hS (by omega) hm hl ha fun t7 t8 t9 t10 t11 t12 c'' hc'' => h _ _ _ _ _ _ _ _ _ _ (by omega)
theorem law_f20 {s0 s2 s3 s4 s5 s6 s7 s8 s9 s10 s11 s12 : Slot} {P : Out → Nat → Prop} (hS : z.isS S) (hc : c ≤ 4000) (h : ∀ t3 t4 t5 t6 t7 t8 t9 t10 t11 t12 c', c' ≤ c + 120 → P (.nx [s0, .dat (.raw (.ref S)), s2, t3, t4, t5, t6, t7, t8, t9, t10, t11, t12]) c') :
    wq z (b_law_f20 ec [s0, .dat (.raw (.ref S)), s2, s3, s4, s5, s6, s7, s8, s9, s10, s11, s12]) c P X := by
  apply wq_of
  simp [b_law_f20]
  refine wp_draw hS (by omega) (by omega) (by omega) fun x x0 x1 => ?_
  obtain ⟨m, hm⟩ : ∃ m : Nat, 1 + x = (m : Nat) := ⟨(1 + x).toNat, by omega⟩
  simp [hm]
  rw [wq_eq]
  exact law_s19 hS (by omega) (by omega) fun t4 t5 t6 t7 t8 t9 t10 t11 t12 c' hc' => h _ _ _ _ _ _ _ _ _ _ _ (by omega)
theorem turns {s0 : Slot} {P : Out → Nat → Prop} (hS : z.isS S) : ∀ (is : List D) (c : Nat) (s2 s3 s4 s5 s6 s7 s8 s9 s10 s11 s12 : Slot), c + 120 * is.length ≤ 4000 → (∀ t2 t3 t4 t5 t6 t7 t8 t9 t10 t11 t12 c', P (.nx [s0, .dat (.raw (.ref S)), t2, t3, t4, t5, t6, t7, t8, t9, t10, t11, t12]) c') →
    wpM z (forM (tgN 2) (b_law_f20 ec) is [s0, .dat (.raw (.ref S)), s2, s3, s4, s5, s6, s7, s8, s9, s10, s11, s12]) c P X
  | [], c, s2, s3, s4, s5, s6, s7, s8, s9, s10, s11, s12, _, h => h _ _ _ _ _ _ _ _ _ _ _ _
  | i :: is, c, s2, s3, s4, s5, s6, s7, s8, s9, s10, s11, s12, hc, h => by
    rw [List.length_cons] at hc
    rw [forM_c rfl]
    refine wpM_bind.mpr (of_wq (law_f20 hS (by omega) fun t3 t4 t5 t6 t7 t8 t9 t10 t11 t12 c' hc' => ?_))
    exact turns hS is c' _ _ _ _ _ _ _ _ _ _ _ (by omega) h
end K41

set_option Elab.async false
set_option linter.all false
set_option maxRecDepth 100000
set_option maxHeartbeats 400000
/-! The law: its end. -/
namespace K41
open PySem PySem.Spec PyProof.Rows L2 LamX C8 Fx KH
variable {ec : Ec} {z : Zw} {S sa : Addr} {c : Nat} {X : PX} {many : Int}
def ones16 : List (List Int) := (rgD 0 16).map fun i => [i]
theorem c1 : f_least_hits ec [.int 16, .lst [.tup [.int 0, .int 15], .tup [.int 3], .tup [.int 3, .int 4]]] = .ret (.tup [.int 0, .int 3]) := by
  have h := least_hits_eq (ec := ec) (b := false) (many := 16) (lots := [[0, 15], [3], [3, 4]]) ⟨by decide, by decide, by unfold Asc; decide⟩
  have e : leastF 16 [[0, 15], [3], [3, 4]] = [0, 3] := by decide +kernel
  rw [if_neg (by decide), e] at h
  exact h
theorem c2 : f_least_hits ec [.int 1, .lst []] = .ret (.tup []) := by
  have h := least_hits_eq (ec := ec) (b := false) (many := 1) (lots := []) ⟨by decide, by decide, by unfold Asc; decide⟩
  have e : leastF 1 [] = [] := by decide +kernel
  rw [if_neg (by decide), e] at h
  exact h
theorem c3 : f_least_hits ec [.int 16, .lst (ones16.map dI)] = .ret (dI (rgD 0 16)) := by
  have h := least_hits_eq (ec := ec) (b := false) (many := 16) (lots := ones16) ⟨by decide, by decide +kernel, by unfold Asc; decide +kernel⟩
  have e : leastF 16 ones16 = rgD 0 16 := by decide +kernel
  rw [if_neg (by decide +kernel), e] at h
  exact h
theorem law_s22 {s0 s1 s2 s3 s4 s5 s6 s7 s8 s9 s10 s11 s12 : Slot} : b_law_s22 ec [s0, s1, s2, s3, s4, s5, s6, s7, s8, s9, s10, s11, s12] = .ret (.rt (.bl true)) := by
  have hl : lcM (tgN 9) bYes (b_law_c21 ec) [s0, s1, s2, s3, s4, s5, s6, s7, s8, .emp, s10, s11, s12] ((rgD 0 16).map .int) = .ret ((rgD 0 16).map fun i => dI [i]) := lcM_map _ _ fun i hi => ⟨_, rfl, rfl, by simp [b_law_c21]⟩
  have hc : f_least_hits ec [.int 16, .lst ((rgD 0 16).map fun i => dI [i])] = .ret (dI (rgD 0 16)) := by
    have := c3 (ec := ec)
    unfold ones16 at this
    rw [List.map_map] at this
    exact this
  have h16 : smI 16 = true := by decide
  have t16 : tinyI 16 = true := by decide
  have hlen : (rgD 0 16).length ≤ 100000 := by decide
  have he : eqvL ((rgD 0 16).map .int) ((rgD 0 16).map .int) = true := by decide +kernel
  simp [b_law_s22, c1, c2, h16, wipeE, hl, hc, t16, hlen, he]
theorem law_goal {sa : Addr} {ns : List Int} {Pm : Prop} {S lw lc : Addr} {cells : List Int} (hn : ns.length ≤ 63) : wpM (.dr sa ns Pm S lw lc cells) (b_law ec ((env0 [.raw (.ref sa)] 12).set 1 (.dat (.raw (.ref S))))) 0 (fun o _ => o = .rt (.bl true)) fun _ _ _ => False := by
  simp [b_law]
  refine ⟨ns.length, if_pos rfl, ?_⟩
  have h1 : smI (2 + min (ns.length : Int) 6) = true := smI_of (by omega)
  simp [h1]
  have hl : ((rgD 0 (2 + min (ns.length : Int) 6)).map D.int).length ≤ 8 := by
    unfold rgD; rw [List.length_map, List.length_map, List.length_range]; omega
  refine wpM_bind.mpr (turns (z := .dr sa ns Pm S lw lc cells) (S := S) rfl _ 0 _ _ _ _ _ _ _ _ _ _ _ (by omega) fun t2 t3 t4 t5 t6 t7 t8 t9 t10 t11 t12 c' => ?_)
  rw [seqO_n, law_s22]
  rfl
end K41

set_option Elab.async false
set_option linter.all false
set_option maxRecDepth 100000
set_option maxHeartbeats 4000000
/-! The law's draws. -/
namespace K41
open PySem PySem.Spec PyProof.Rows L2 LamX C8 Fx
section
variable {P : Program} {w : World} {K : PySem.W.Frag} {mg : Str → Option Value} {base : Heap} {T : List (Addr × Str)} {cdv : Value} {c0 P0 : Addr} {W0' : Wld T} {S lw lc : Addr} {cells : List Int} {ec : Ec}
theorem nd_law_begun : (["_law_script", "_law_wide", "_law_cell"] : List PySem.Str).Nodup := by decide +kernel
theorem ok_law_begun (F : Df K mg "_law_begun" (top 26) ["_law_script"] cdv) (B : Bn mg) : Cal P w K mg base (1 + 1) "_law_begun" (SpBegunX T K) [] := by
  have nd := nd_law_begun
  refine cal_raw (N := ["_law_script", "_law_wide", "_law_cell"]) F (by decide +kernel) ?len (fun a A outer s H E hr => ⟨_, (pss_cons (ps_setLc (i := 1) rfl nd rfl rfl (sw_true rfl rfl rfl (by decide +kernel)) (kpi_list K (pv 0)) (blkOk_by (own := [("_law_cell", 2)]) (by rfl)) (fun _ _ _ _ _ => (pg_name (i := 2) nd rfl (Or.inl rfl))) (fun _ _ _ _ _ => (pts_one (pt_cmpR op_ge (pe_callB call_abs rfl (by exact B.abs) (by decide +kernel) (pa_cons (pv 2) pa_nil)) (pe_op op_pow pe_int pe_int) (nomark _)))) (fun _ _ _ _ _ => (pe_op op_sub (pe_callB call_abs rfl (by exact B.abs) (by decide +kernel) (pa_cons (pv 2) pa_nil)) (pe_op op_pow pe_int pe_int))))
    (pss_one (ps_ret (pe_disp (pps_cons pe_str (pv 1) (pps_cons pe_str (pe_lc rfl nd (kpi_list K (pv 0)) (blkOk_by (own := [("_law_cell", 2)]) (by rfl)) (fun _ _ _ _ _ => (pg_name (i := 2) nd rfl (Or.inl rfl))) (fun _ _ _ _ _ => pts_nil) (fun _ _ _ _ _ => (pe_op op_mod (pe_callTy call_int1 rfl (by exact B.int) (by decide +kernel) (pa_cons (pe_callB call_abs rfl (by exact B.abs) (by decide +kernel) (pa_cons (pv 2) pa_nil)) pa_nil)) pe_int))) (pps_cons pe_str pe_int (pps_cons pe_str pe_int pps_nil)))) (by rfl) (by rfl) (fun z => by cases z) (by decide))))), ?rd⟩)
  case len => rintro vs H Q E ⟨_, _, _, _, rfl, _⟩; rfl
  case rd =>
    rintro vs Q ⟨sa, ns, Pm, hns, rfl, G, c, g, j, q⟩
    have A := at_start (N := ["_law_script", "_law_wide", "_law_cell"]) (ds := [.raw (.ref sa)]) g j (.cons (.raw (.ref sa)) .nil) (by simp)
    refine seq_asg (mn_lcP (T := T) (W := WS T K sa ns Pm) (fun d b => ∀ x : Int, d = .int x → b = decide ((10 : Int) ^ (18 : Int).toNat ≤ (x.natAbs : Nat))) (fun d => ∃ x : Int, d = .int x ∧ 0 ≤ x) (src_scr (i := 0) rfl) (by rw [List.length_map]; omega) (fun d hd c' => ?_) (fun d hd pt c' => ?_) _ _ _ _ _ A _ fun p xs ds G2 H2 s2 g2 j2 hp gp nf m r ⟨hl, hds⟩ => ?_)
    · obtain ⟨x, hx, rfl⟩ := List.mem_map.mp hd
      exact (et_test (ed_op (ed_CB (ea_cons (ed_var rfl) ea_nil) rdl_abs) (ed_op ed_int ed_int (rd_pow ⟨by decide, by decide, by decide⟩)) rd_ge)).n.imp (Nat.le_refl _) fun b e y ey => by cases ey; exact e
    · obtain ⟨x, hx, rfl⟩ := List.mem_map.mp hd
      refine (ed_op (ed_CB (ea_cons (ed_var rfl) ea_nil) rdl_abs) (ed_op ed_int ed_int (rd_pow ⟨by decide, by decide, by decide⟩)) rd_sub).n.imp (Nat.le_refl _) fun d e => ⟨_, e, ?_⟩
      have := of_decide_eq_true (pt x rfl).symm
      omega
    have A2 := A.setMN 1 (by simp [env0]) s2 g2 j2 hp gp nf m r
    obtain ⟨ws, rfl, hws⟩ := ints_of ds hds
    refine ret_raw (disp_draw (by rfl) hws (fun G0 H0 σ G H A Q q => ?_) A2 _ fun S lw lc cells G3 H3 s3 g3 j3 d hc n1 n2 n3 => q S lw lc ws cells G3 H3 (s2.trans s3) g3 j3 d hc n1 n2 n3)
    refine mn_lcP (T := T) (W := WS T K sa ns Pm) (fun _ _ => True) (fun d => ∃ x : Int, d = .int x ∧ 0 ≤ x) (src_scr (i := 0) rfl) (by rw [List.length_map]; omega) (fun d hd c' => et_yes.n.imp (Nat.le_refl _) fun _ _ => trivial) (fun d hd _ c' => ?_) _ _ _ _ _ A Q fun p xs ds G2 H2 s2 g2 j2 hp gp nf m r ⟨hl, hds⟩ => q p xs ds G2 H2 s2 g2 j2 hp gp nf m r (ints_of ds hds)
    obtain ⟨x, hx, rfl⟩ := List.mem_map.mp hd
    exact (ed_op (ed_CB (ea_cons (ed_CB (ea_cons (ed_var rfl) ea_nil) rdl_abs) ea_nil) rdl_int) ed_int (rd_mod (by decide))).n.imp (Nat.le_refl _) fun d e => ⟨_, e, Int.emod_nonneg _ (by decide)⟩
theorem nd_law_mixed_up : (["_law_state", "_law_found", "_law_turn", "_law_prime", "_law_blend", "_law_cell"] : List PySem.Str).Nodup := by decide +kernel
theorem ok_law_mixed_up (F : Df K mg "_law_mixed_up" (top 29) ["_law_state"] cdv) (B : Bn mg) : Cal P w K mg base (1 + 1) "_law_mixed_up" (SpSx T 1 fMix) [] := by
  have nd := nd_law_mixed_up
  refine calSx (N := ["_law_state", "_law_found", "_law_turn", "_law_prime", "_law_blend", "_law_cell"]) F (by decide +kernel) ?len (fun a A outer s H E hr => ⟨_, (pss_cons (ps_dput (hu_of hr) (pv 0) pe_str (pe_op op_add (pe_dget (hu_of hr) (pv 0) pe_str (fun _ _ => rfl)) pe_int) rfl)
    (pss_cons (ps_par (i := 1) (j := 2) rfl nd rfl rfl (by decide) rfl rfl (pa_cons pe_int (pa_cons (pe_dget (hu_of hr) (pv 0) pe_str (fun _ _ => rfl)) pa_nil)) (by rfl))
    (pss_cons (ps_for PassesOwn.never rfl (kpi_list K (pe_lst (pa_cons pe_int (pa_cons pe_int (pa_cons pe_int (pa_cons pe_int (pa_cons pe_int (pa_cons pe_int pa_nil)))))))) (pg_name (i := 3) nd rfl (Or.inl rfl)) (pss_cons (ps_set (i := 4) nd rfl (Or.inl rfl) (pe_op op_add (pe_op op_mulW pe_int (pv 2)) (pe_op op_fdivW (pv 3) pe_int)))
    (pss_cons (ps_for PassesOwn.never rfl (kpi_list K (pe_dget (hu_of hr) (pv 0) pe_str (fun _ _ => rfl))) (pg_name (i := 5) nd rfl (Or.inl rfl)) (pss_one (ps_set (i := 4) nd rfl (Or.inl rfl) (pe_op op_mod (pe_callTy call_int1 rfl (by exact B.int) (by decide +kernel) (pa_cons (pe_op op_add (pe_op op_mulW (pv 4) pe_int) (pv 5)) pa_nil)) (pv 3)))))
    (pss_one (ps_set (i := 1) nd rfl (Or.inl rfl) (pe_op op_add (pe_op op_mulW (pv 1) pe_int) (pe_op op_mod (pe_callTy call_int1 rfl (by exact B.int) (by decide +kernel) (pa_cons (pe_op op_pow (pv 4) pe_int) pa_nil)) (pv 3))))))))
    (pss_one (ps_ret (pv 1)))))), ?rd⟩)
  case len => rintro S ds d ⟨rfl, _⟩; rfl
  case rd =>
    rintro W0' S lw lc cells ds P c ⟨rfl, hP⟩ hc
    have hc : c + 1 ≤ 1099511627776 := hc
    refine tr_seq (fun e c2 => e = [.dat (.raw (.ref S)), .emp, .emp, .emp, .emp, .emp] ∧ c2 = c + 1) (tr_putT (n := 0) rfl (en_op (en_turn rfl) (ed_int (i := 1)).n (P := fun d => ∃ r : Int, d = .int r ∧ 0 ≤ r ∧ r ≤ (c + 1 : Nat)) fun d1 d2 ⟨t, e1, t0, t1⟩ e2 => ⟨.int (t + 1), by rw [e1, e2]; exact rd_add, t + 1, rfl, by omega, by omega⟩) ⟨rfl, rfl⟩) ?_
    rintro e c2 ⟨rfl, rfl⟩
    refine tr_parN (n := 0) (ean_cons (ed_int (i := 0)).n (ean_cons (en_turn rfl) ean_nil)) ?_
    rintro l ⟨d1, ds1, rfl, rfl, d2, ds2, rfl, ⟨t, rfl, t0, t1⟩, rfl⟩
    refine ⟨_, _, rfl, ?_⟩
    refine tr_seq (fun e c2 => c2 = c + 1 ∧ ∃ found : Int, ∃ s3 s4 s5, e = [.dat (.raw (.ref S)), .dat (.int found), .dat (.int t), s3, s4, s5] ∧ 0 ≤ found) ?_ ?_
    · refine tr_for (src_list (ed_lst (ea_cons ed_int (ea_cons ed_int (ea_cons ed_int (ea_cons ed_int (ea_cons ed_int (ea_cons ed_int ea_nil)))))) (by decide))).n ?_
      rintro _ rfl
      refine ⟨fun i e c2 => c2 = c + 1 ∧ ∃ found : Int, ∃ s3 s4 s5, e = [.dat (.raw (.ref S)), .dat (.int found), .dat (.int t), s3, s4, s5] ∧ 0 ≤ found ∧ found ≤ (2 : Int) ^ (64 * i) ∧ i ≤ 6, ⟨rfl, 0, _, _, _, rfl, by omega, by decide, by omega⟩, ?_, ?_⟩
      · rintro i d e c1 hd ⟨rfl, found, s3, s4, s5, rfl, f0, f1, hi⟩
        have hil : i < 6 := (List.getElem?_eq_some_iff.mp hd).1
        obtain ⟨p, rfl, p0, p1⟩ : ∃ p : Int, d = .int p ∧ 2147483543 ≤ p ∧ p ≤ 2147483647 := by
          have hm := List.mem_of_getElem? hd
          simp only [List.mem_cons, List.mem_nil_iff, or_false] at hm
          rcases hm with rfl | rfl | rfl | rfl | rfl | rfl <;> exact ⟨_, rfl, by decide, by decide⟩
        have hy : (2 : Int) ^ (64 * (i + 1)) = 2 ^ (64 * i) * 18446744073709551616 := by
          rw [Nat.mul_succ, Int.pow_add]; rfl
        have hy1 : (1 : Int) ≤ 2 ^ (64 * i) := by
          have : (0 : Int) < 2 ^ (64 * i) := Int.pow_pos (by decide)
          omega
        have hy2 : (2 : Int) ^ (64 * i) ≤ 2 ^ 384 := by
          have : (2 : Nat) ^ (64 * i) ≤ 2 ^ 384 := Nat.pow_le_pow_right (by decide) (by omega)
          exact_mod_cast this
        have hf : found.natAbs < 2 ^ 385 := natAbs_lt f0 (Int.lt_of_le_of_lt (Int.le_trans f1 hy2) (by decide))
        refine ⟨_, tg_name, ?_⟩
        refine tr_set (d := .int (130363 * t + p / 13)) (ed_op (ed_op ed_int (ed_var rfl) (rd_mulW (wide_mul (a := 17) (b := 41) (by decide) (natAbs_lt t0 (Int.lt_of_le_of_lt (b := 1099511627777) (by omega) (by decide))) (by decide) (by decide) (by decide)))) (ed_op (ed_var rfl) ed_int (rd_divW (wide_div (b := 4) (by decide) (by decide) (by decide) (by decide)))) rd_add) ?_
        refine tr_seq (fun e c2 => c2 = c + 1 ∧ ∃ b : Int, ∃ s5, e = [.dat (.raw (.ref S)), .dat (.int found), .dat (.int t), .dat (.int p), .dat (.int b), s5] ∧ 0 ≤ b ∧ b < 18446744073709551616) ?_ ?_
        · refine tr_for (src_cells rfl).n ?_
          rintro _ rfl
          have hdiv : 0 ≤ p / 13 ∧ p / 13 ≤ p := ⟨Int.ediv_nonneg (by omega) (by decide), by omega⟩
          refine ⟨fun i e c2 => c2 = c + 1 ∧ ∃ b : Int, ∃ s5, e = [.dat (.raw (.ref S)), .dat (.int found), .dat (.int t), .dat (.int p), .dat (.int b), s5] ∧ 0 ≤ b ∧ b < 18446744073709551616, ⟨rfl, _, _, rfl, by omega, by omega⟩, ?_, fun e c h => h⟩
          rintro j d e c1 hd ⟨rfl, b, s5, rfl, b0, b1⟩
          rw [List.getElem?_map] at hd
          cases hx : cells[j]? with
          | none => rw [hx] at hd; cases hd
          | some x =>
          rw [hx] at hd
          cases hd
          refine ⟨_, tg_name, ?_⟩
          refine tr_set1 (d := .int ((b * 48271 + x) % p)) (ed_op (ed_CB (ea_cons (ed_op (ed_op (ed_var rfl) ed_int (rd_mulW (wide_mul (a := 64) (b := 17) (natAbs_lt b0 b1) (by decide) (by decide) (by decide) (by decide)))) (ed_var rfl) rd_add) ea_nil) rdl_int) (ed_var rfl) (rd_mod (by omega))) ⟨rfl, _, _, rfl, Int.emod_nonneg _ (by omega), ?_⟩
          have := Int.emod_lt_of_pos (b * 48271 + x) (show (0 : Int) < p by omega)
          omega
        · rintro e c2 ⟨rfl, b, s5, rfl, b0, b1⟩
          have h1 := Int.emod_nonneg (b ^ (5 : Int).toNat) (show p ≠ 0 by omega)
          have h2 := Int.emod_lt_of_pos (b ^ (5 : Int).toNat) (show (0 : Int) < p by omega)
          refine tr_set1 (d := .int (found * 2147483647 + b ^ (5 : Int).toNat % p)) (ed_op (ed_op (ed_var rfl) ed_int (rd_mulW (wide_mul (a := 385) (b := 31) hf (by decide) (by decide) (by decide) (by decide)))) (ed_op (ed_CB (ea_cons (ed_op (ed_var rfl) ed_int (rd_pow ⟨by decide, by decide, natAbs_lt b0 b1⟩)) ea_nil) rdl_int) (ed_var rfl) (rd_mod (by omega))) rd_add) ⟨rfl, _, _, _, _, rfl, by omega, ?_, by omega⟩
          rw [hy]
          omega
      · rintro e c1 ⟨rfl, found, s3, s4, s5, rfl, f0, _⟩
        exact ⟨rfl, _, _, _, _, rfl, f0⟩
    · rintro e c2 ⟨rfl, found, s3, s4, s5, rfl, f0⟩
      exact tr_ret (ed_var rfl) ⟨hP _ f0, by omega⟩
theorem nd_law_draw : (["_law_state", "_law_size_here", "_law_found"] : List PySem.Str).Nodup := by decide +kernel
theorem ok_law_draw (F : Df K mg "_law_draw" (top 30) ["_law_state", "_law_size_here"] cdv) (B : Bn mg) (c_law_mixed_up : Cal P w K mg base 2 "_law_mixed_up" (SpSx T 1 fMix) []) : Cal P w K mg base (2 + 1) "_law_draw" (SpSx T 1 fDraw) [] := by
  have nd := nd_law_draw
  refine calSx (N := ["_law_state", "_law_size_here", "_law_found"]) F (by decide +kernel) ?len (fun a A outer s H E hr => ⟨_, (pss_cons (ps_if (pt_cmpR (keq K hr.units) (pe_dget (hu_of hr) (pv 0) pe_str (fun _ _ => rfl)) pe_int (nomark _)) (pss_one (ps_dput (hu_of hr) (pv 0) pe_str (pe_ifExp (pt_cmpR (kne K hr.units) (pe_dget (hu_of hr) (pv 0) pe_str (fun _ _ => rfl)) (pe_lst pa_nil) (nomark _)) (pe_bm PySem.F.plainAttrs_list PySem.F.slot_list_pop PySem.F.type_list_pop mt_popAt (pe_dget (hu_of hr) (pv 0) pe_str (fun _ _ => rfl)) (pa_cons pe_int pa_nil)) (pe_c c_law_mixed_up hr (by omega) rfl (pa_cons (pv 0) pa_nil))) rfl)) pss_nil)
    (pss_cons (ps_set (i := 2) nd rfl (Or.inl rfl) (pe_op op_mod (pe_callTy call_int1 rfl (by exact B.int) (by decide +kernel) (pa_cons (pe_dget (hu_of hr) (pv 0) pe_str (fun _ _ => rfl)) pa_nil)) (pv 1)))
    (pss_cons (ps_dput (hu_of hr) (pv 0) pe_str (pe_op op_fdivW (pe_dget (hu_of hr) (pv 0) pe_str (fun _ _ => rfl)) (pv 1)) rfl)
    (pss_one (ps_ret (pv 2)))))), ?rd⟩)
  case len => rintro S ds d ⟨n, rfl, _⟩; rfl
  case rd =>
    rintro W0' S lw lc cells ds P c ⟨n, rfl, n0, n1, hP⟩ hc
    refine tr_seq (fun e c2 => e = [.dat (.raw (.ref S)), .dat (.int n), .emp] ∧ c ≤ c2 ∧ c2 ≤ c + 1) (tr_ifN (etn_test (en_op (P := fun d => ∃ b, d = .bl b ∧ True) (en_rest rfl) (ed_int (i := 0)).n fun d1 d2 ⟨r, e1, r0⟩ e2 => ⟨.bl (decide (r = 0)), by rw [e1, e2]; exact rd_eqI, _, rfl, trivial⟩)) (fun _ => ?_) (fun _ => tr_next ⟨rfl, by omega, by omega⟩)) ?_
    · exact tr_putR (n := 1) rfl (en_next rfl (en_callX (f := fMix) (ean_cons (ed_var rfl).n ean_nil) (fun ds ⟨d1, ds1, e1, e2, e3⟩ => ⟨by rw [e1, e2, e3], fun x hx => ⟨x, rfl, hx⟩⟩) (by omega))) ⟨rfl, by omega, by omega⟩
    · rintro e c2 ⟨rfl, h1, h2⟩
      refine tr_setN (n := 0) (en_op (P := fun d => ∃ x : Int, d = .int x ∧ 0 ≤ x ∧ x < n) (en_CB (P' := fun d => ∃ r : Int, d = .int r ∧ 0 ≤ r) (ean_cons (en_rest rfl) ean_nil) fun ds ⟨d1, ds1, e1, ⟨r, e2, r0⟩, e3⟩ => ⟨.int r, by rw [e1, e2, e3]; exact rdl_int, r, rfl, r0⟩) (ed_var rfl).n fun d1 d2 ⟨r, e1, r0⟩ e2 => ⟨.int (r % n), by rw [e1, e2]; exact rd_mod n0, _, rfl, Int.emod_nonneg _ (by omega), Int.emod_lt_of_pos _ n0⟩) ?_
      rintro d ⟨x, rfl, x0, x1⟩
      refine tr_seq (fun e c3 => e = [.dat (.raw (.ref S)), .dat (.int n), .dat (.int x)] ∧ c3 = c2) (tr_putR (n := 0) rfl (en_op (en_rest rfl) (ed_var rfl).n fun d1 d2 ⟨r, e1, r0⟩ e2 => ⟨.int (r / n), by rw [e1, e2]; exact rd_divW (wide_div (b := 20) n0 (by omega) (by decide) (by decide)), _, rfl, Int.ediv_nonneg r0 (by omega)⟩) ⟨rfl, rfl⟩) ?_
      rintro e c3 ⟨rfl, rfl⟩
      exact tr_ret (ed_var rfl) ⟨hP x x0 x1, by omega⟩
end
end K41


set_option Elab.async false
set_option linter.all false
set_option maxRecDepth 100000
set_option maxHeartbeats 0
/-! The end: what the top leaves, the chain of defs, the theorem. -/
namespace K41
open PySem PySem.Spec PyProof.Rows L2 LamX C8 Fx
def dd6 : He.DefD := ⟨("is_number", none), "is_number", "is_number", fnArgs (top 6), fnBody (top 6), fnScope (top 6), [], []⟩
def dd7 : He.DefD := ⟨("is_list", none), "is_list", "is_list", fnArgs (top 7), fnBody (top 7), fnScope (top 7), [], []⟩
def dd13 : He.DefD := ⟨("is_lot", none), "is_lot", "is_lot", fnArgs (top 13), fnBody (top 13), fnScope (top 13), [], []⟩
def dd14 : He.DefD := ⟨("need_lots", none), "need_lots", "need_lots", fnArgs (top 14), fnBody (top 14), fnScope (top 14), [], []⟩
def dd15 : He.DefD := ⟨("open_lots", none), "open_lots", "open_lots", fnArgs (top 15), fnBody (top 15), fnScope (top 15), [], []⟩
def dd16 : He.DefD := ⟨("shortest", none), "shortest", "shortest", fnArgs (top 16), fnBody (top 16), fnScope (top 16), [], []⟩
def dd17 : He.DefD := ⟨("can_hit", none), "can_hit", "can_hit", fnArgs (top 17), fnBody (top 17), fnScope (top 17), [], []⟩
def dd18 : He.DefD := ⟨("least_of", none), "least_of", "least_of", fnArgs (top 18), fnBody (top 18), fnScope (top 18), [], []⟩
def dd19 : He.DefD := ⟨("least_hits", none), "least_hits", "least_hits", fnArgs (top 19), fnBody (top 19), fnScope (top 19), [], []⟩
def dd20 : He.DefD := ⟨("grown", none), "grown", "grown", fnArgs (top 20), fnBody (top 20), fnScope (top 20), [], []⟩
def dd21 : He.DefD := ⟨("need_number", none), "need_number", "need_number", fnArgs (top 21), fnBody (top 21), fnScope (top 21), [], []⟩
def dd22 : He.DefD := ⟨("hit_tree", none), "hit_tree", "hit_tree", fnArgs (top 22), fnBody (top 22), fnScope (top 22), [], []⟩
def dd23 : He.DefD := ⟨("is_hit_tree", none), "is_hit_tree", "is_hit_tree", fnArgs (top 23), fnBody (top 23), fnScope (top 23), [], []⟩
def dd24 : He.DefD := ⟨("is_grown", none), "is_grown", "is_grown", fnArgs (top 24), fnBody (top 24), fnScope (top 24), [], []⟩
def dd26 : He.DefD := ⟨("_law_begun", none), "_law_begun", "_law_begun", fnArgs (top 26), fnBody (top 26), fnScope (top 26), [], []⟩
def dd27 : He.DefD := ⟨("_law_pick", none), "_law_pick", "_law_pick", fnArgs (top 27), fnBody (top 27), fnScope (top 27), [], []⟩
def dd28 : He.DefD := ⟨("_law_caught", none), "_law_caught", "_law_caught", fnArgs (top 28), fnBody (top 28), fnScope (top 28), [], []⟩
def dd29 : He.DefD := ⟨("_law_mixed_up", none), "_law_mixed_up", "_law_mixed_up", fnArgs (top 29), fnBody (top 29), fnScope (top 29), [], []⟩
def dd30 : He.DefD := ⟨("_law_draw", none), "_law_draw", "_law_draw", fnArgs (top 30), fnBody (top 30), fnScope (top 30), [], []⟩
def dd31 : He.DefD := ⟨("_law_drawn_lots", none), "_law_drawn_lots", "_law_drawn_lots", fnArgs (top 31), fnBody (top 31), fnScope (top 31), [], []⟩
def dd32 : He.DefD := ⟨("_law_do_hit", none), "_law_do_hit", "_law_do_hit", fnArgs (top 32), fnBody (top 32), fnScope (top 32), [], []⟩
def dd33 : He.DefD := ⟨("_law_all_lots", none), "_law_all_lots", "_law_all_lots", fnArgs (top 33), fnBody (top 33), fnScope (top 33), [], []⟩
def dd34 : He.DefD := ⟨("_law_bent_lots", none), "_law_bent_lots", "_law_bent_lots", fnArgs (top 34), fnBody (top 34), fnScope (top 34), [], []⟩
def dd35 : He.DefD := ⟨("law", none), "law", "law", fnArgs (top 35), fnBody (top 35), fnScope (top 35), [], []⟩
def fnl : List He.DefD := [dd6, dd7, dd13, dd14, dd15, dd16, dd17, dd18, dd19, dd20, dd21, dd22, dd23, dd24, dd26, dd27, dd28, dd29, dd30, dd31, dd32, dd33, dd34, dd35]
def fal : List He.Fa := [.glo "is_number", .glo "is_list", .glo "is_lot", .glo "need_lots", .glo "open_lots", .glo "shortest", .glo "can_hit", .glo "least_of", .glo "least_hits", .glo "grown", .glo "need_number", .glo "hit_tree", .glo "is_hit_tree", .glo "is_grown", .glo "_law_begun", .glo "_law_pick", .glo "_law_caught", .glo "_law_mixed_up", .glo "_law_draw", .glo "_law_drawn_lots", .glo "_law_do_hit", .glo "_law_all_lots", .glo "_law_bent_lots", .glo "law", .free "isinstance", .free "int", .free "bool", .free "list", .free "tuple", .free "all", .free "any", .free "zip", .free "enumerate", .free "range", .free "len", .free "min", .free "max", .free "abs", .free "sorted", .free "repr", .int "MOST_GAPS" 16, .int "MOST_LOTS" 400, .glo "LaneError", .glo "BadMany", .glo "BadLots", .glo "BadNumber", .exc "LaneError", .exc "BadMany", .exc "BadNumber"]
def tfl : List He.Defn := [("shortest", none), ("_law_all_lots", none), ("law", none)]
def exl (K : PySem.W.Frag) : Bool := decide ((tfl.map fun p => (He.cT K p).2).Nodup) && Fx.isB K "LaneError" "BadMany" && Fx.isB K "LaneError" "BadLots" && Fx.isB K "LaneError" "BadNumber" && Fx.supB K PySem.Challenge.rw_lanesmeet_k41_fewest_gaps.prog "BadLots" "at"
def tabl (K : PySem.W.Frag) : List (Addr × Str) := [((He.cT K ("shortest", none)).2, "shortest.<locals>.<lambda>"), ((He.cT K ("_law_all_lots", none)).2, "_law_all_lots.<locals>.<lambda>"), ((He.cT K ("law", none)).2, "law.<locals>.<lambda>")]
def mth (s : Stmt) (j : Nat) : Stmt := match s with | .ClassDef _ _ _ b _ _ _ _ _ _ _ => b.getD j (.Pass ⟨0, 0, 0, 0⟩) | _ => .Pass ⟨0, 0, 0, 0⟩
def mt_BadLots : Stmt := mth (top 3) 0
def msl : List Fx.SupD := [⟨"BadLots", mt_BadLots⟩]
abbrev Rw : PySem.W.OpenRow := PySem.W.OpenLaw.row PySem.Challenge.rw_lanesmeet_k41_fewest_gaps
abbrev hk : PySem.W.Hook := Fx.hookS 4 fal fnl [] tfl exl msl
def ob (s : PySem.W.SharedT) : Fx.AlS := Fx.obsS 4 fal fnl [] tfl exl msl (HandSHeadRun.getT s)
theorem ob_eq (s : PySem.W.SharedT) : ob s = hk.obs s.abs := Fx.obsS_eq (HandSHeadRun.getT_eq s)
def loose0 : List PySem.Str := ["LaneError", "BadMany", "BadLots", "BadNumber", "is_number", "is_list", "MOST_GAPS", "MOST_LOTS", "END", "PART", "is_lot", "need_lots", "open_lots", "shortest", "can_hit", "least_of", "least_hits", "grown", "need_number", "hit_tree", "is_hit_tree", "is_grown", "_law_begun", "_law_pick", "_law_caught", "_law_mixed_up", "_law_draw", "_law_drawn_lots", "_law_do_hit", "_law_all_lots"]
def loose1 : List PySem.Str := ["_law_bent_lots"]
def loose : List PySem.Str := loose0 ++ loose1
theorem run (w : World) : HandSHeadRun.RunEq Rw (PySem.W.view Rw.prog [35]) hk ob 4000 loose w := by
  intro os
  kernel_rfl

theorem law_at {w : World} {K : PySem.W.Frag} {h : Heap} {mg : Str → Option Value} (X : K.In h) (G : h.Ns mainGlobals mg) (cS : Fx.SaysS fal fnl [] tfl exl msl w h K) :
    LawG PySem.Challenge.rw_lanesmeet_k41_fewest_gaps w K 33 63 "law" "_law_script" mg h := by
  have c := cS.says
  have c1 : He.SaysD fal fnl K := congrArg (fun z : He.AlT => z.1) c.t
  obtain ⟨fd6, F6⟩ := c1.def_ 0 (d := dd6) rfl
  have g6 : mg ("is_number" : Str) = some (.ref (He.fAd K ("is_number", none))) := He.glo_ok X G (c1.fact 0 (f := .glo "is_number") rfl)
  obtain ⟨fd7, F7⟩ := c1.def_ 1 (d := dd7) rfl
  have g7 : mg ("is_list" : Str) = some (.ref (He.fAd K ("is_list", none))) := He.glo_ok X G (c1.fact 1 (f := .glo "is_list") rfl)
  obtain ⟨fd13, F13⟩ := c1.def_ 2 (d := dd13) rfl
  have g13 : mg ("is_lot" : Str) = some (.ref (He.fAd K ("is_lot", none))) := He.glo_ok X G (c1.fact 2 (f := .glo "is_lot") rfl)
  obtain ⟨fd14, F14⟩ := c1.def_ 3 (d := dd14) rfl
  have g14 : mg ("need_lots" : Str) = some (.ref (He.fAd K ("need_lots", none))) := He.glo_ok X G (c1.fact 3 (f := .glo "need_lots") rfl)
  obtain ⟨fd15, F15⟩ := c1.def_ 4 (d := dd15) rfl
  have g15 : mg ("open_lots" : Str) = some (.ref (He.fAd K ("open_lots", none))) := He.glo_ok X G (c1.fact 4 (f := .glo "open_lots") rfl)
  obtain ⟨fd16, F16⟩ := c1.def_ 5 (d := dd16) rfl
  have g16 : mg ("shortest" : Str) = some (.ref (He.fAd K ("shortest", none))) := He.glo_ok X G (c1.fact 5 (f := .glo "shortest") rfl)
  obtain ⟨fd17, F17⟩ := c1.def_ 6 (d := dd17) rfl
  have g17 : mg ("can_hit" : Str) = some (.ref (He.fAd K ("can_hit", none))) := He.glo_ok X G (c1.fact 6 (f := .glo "can_hit") rfl)
  obtain ⟨fd18, F18⟩ := c1.def_ 7 (d := dd18) rfl
  have g18 : mg ("least_of" : Str) = some (.ref (He.fAd K ("least_of", none))) := He.glo_ok X G (c1.fact 7 (f := .glo "least_of") rfl)
  obtain ⟨fd19, F19⟩ := c1.def_ 8 (d := dd19) rfl
  have g19 : mg ("least_hits" : Str) = some (.ref (He.fAd K ("least_hits", none))) := He.glo_ok X G (c1.fact 8 (f := .glo "least_hits") rfl)
  obtain ⟨fd20, F20⟩ := c1.def_ 9 (d := dd20) rfl
  have g20 : mg ("grown" : Str) = some (.ref (He.fAd K ("grown", none))) := He.glo_ok X G (c1.fact 9 (f := .glo "grown") rfl)
  obtain ⟨fd21, F21⟩ := c1.def_ 10 (d := dd21) rfl
  have g21 : mg ("need_number" : Str) = some (.ref (He.fAd K ("need_number", none))) := He.glo_ok X G (c1.fact 10 (f := .glo "need_number") rfl)
  obtain ⟨fd22, F22⟩ := c1.def_ 11 (d := dd22) rfl
  have g22 : mg ("hit_tree" : Str) = some (.ref (He.fAd K ("hit_tree", none))) := He.glo_ok X G (c1.fact 11 (f := .glo "hit_tree") rfl)
  obtain ⟨fd23, F23⟩ := c1.def_ 12 (d := dd23) rfl
  have g23 : mg ("is_hit_tree" : Str) = some (.ref (He.fAd K ("is_hit_tree", none))) := He.glo_ok X G (c1.fact 12 (f := .glo "is_hit_tree") rfl)
  obtain ⟨fd24, F24⟩ := c1.def_ 13 (d := dd24) rfl
  have g24 : mg ("is_grown" : Str) = some (.ref (He.fAd K ("is_grown", none))) := He.glo_ok X G (c1.fact 13 (f := .glo "is_grown") rfl)
  obtain ⟨fd26, F26⟩ := c1.def_ 14 (d := dd26) rfl
  have g26 : mg ("_law_begun" : Str) = some (.ref (He.fAd K ("_law_begun", none))) := He.glo_ok X G (c1.fact 14 (f := .glo "_law_begun") rfl)
  obtain ⟨fd27, F27⟩ := c1.def_ 15 (d := dd27) rfl
  have g27 : mg ("_law_pick" : Str) = some (.ref (He.fAd K ("_law_pick", none))) := He.glo_ok X G (c1.fact 15 (f := .glo "_law_pick") rfl)
  obtain ⟨fd28, F28⟩ := c1.def_ 16 (d := dd28) rfl
  have g28 : mg ("_law_caught" : Str) = some (.ref (He.fAd K ("_law_caught", none))) := He.glo_ok X G (c1.fact 16 (f := .glo "_law_caught") rfl)
  obtain ⟨fd29, F29⟩ := c1.def_ 17 (d := dd29) rfl
  have g29 : mg ("_law_mixed_up" : Str) = some (.ref (He.fAd K ("_law_mixed_up", none))) := He.glo_ok X G (c1.fact 17 (f := .glo "_law_mixed_up") rfl)
  obtain ⟨fd30, F30⟩ := c1.def_ 18 (d := dd30) rfl
  have g30 : mg ("_law_draw" : Str) = some (.ref (He.fAd K ("_law_draw", none))) := He.glo_ok X G (c1.fact 18 (f := .glo "_law_draw") rfl)
  obtain ⟨fd31, F31⟩ := c1.def_ 19 (d := dd31) rfl
  have g31 : mg ("_law_drawn_lots" : Str) = some (.ref (He.fAd K ("_law_drawn_lots", none))) := He.glo_ok X G (c1.fact 19 (f := .glo "_law_drawn_lots") rfl)
  obtain ⟨fd32, F32⟩ := c1.def_ 20 (d := dd32) rfl
  have g32 : mg ("_law_do_hit" : Str) = some (.ref (He.fAd K ("_law_do_hit", none))) := He.glo_ok X G (c1.fact 20 (f := .glo "_law_do_hit") rfl)
  obtain ⟨fd33, F33⟩ := c1.def_ 21 (d := dd33) rfl
  have g33 : mg ("_law_all_lots" : Str) = some (.ref (He.fAd K ("_law_all_lots", none))) := He.glo_ok X G (c1.fact 21 (f := .glo "_law_all_lots") rfl)
  obtain ⟨fd34, F34⟩ := c1.def_ 22 (d := dd34) rfl
  have g34 : mg ("_law_bent_lots" : Str) = some (.ref (He.fAd K ("_law_bent_lots", none))) := He.glo_ok X G (c1.fact 22 (f := .glo "_law_bent_lots") rfl)
  obtain ⟨fd35, F35⟩ := c1.def_ 23 (d := dd35) rfl
  have g35 : mg ("law" : Str) = some (.ref (He.fAd K ("law", none))) := He.glo_ok X G (c1.fact 23 (f := .glo "law") rfl)
  have B : Bn mg := {
    isinstance := He.free_ok X G (c1.fact 24 (f := .free "isinstance") rfl)
    int := He.free_ok X G (c1.fact 25 (f := .free "int") rfl)
    bool := He.free_ok X G (c1.fact 26 (f := .free "bool") rfl)
    list := He.free_ok X G (c1.fact 27 (f := .free "list") rfl)
    tuple := He.free_ok X G (c1.fact 28 (f := .free "tuple") rfl)
    all := He.free_ok X G (c1.fact 29 (f := .free "all") rfl)
    any := He.free_ok X G (c1.fact 30 (f := .free "any") rfl)
    zip := He.free_ok X G (c1.fact 31 (f := .free "zip") rfl)
    enumerate := He.free_ok X G (c1.fact 32 (f := .free "enumerate") rfl)
    range := He.free_ok X G (c1.fact 33 (f := .free "range") rfl)
    len := He.free_ok X G (c1.fact 34 (f := .free "len") rfl)
    min := He.free_ok X G (c1.fact 35 (f := .free "min") rfl)
    max := He.free_ok X G (c1.fact 36 (f := .free "max") rfl)
    abs := He.free_ok X G (c1.fact 37 (f := .free "abs") rfl)
    sorted := He.free_ok X G (c1.fact 38 (f := .free "sorted") rfl)
    repr := He.free_ok X G (c1.fact 39 (f := .free "repr") rfl)
    cMOST_GAPS := He.int_ok X G (c1.fact 40 (f := .int "MOST_GAPS" 16) rfl)
    cMOST_LOTS := He.int_ok X G (c1.fact 41 (f := .int "MOST_LOTS" 400) rfl)
  }
  have more := c.more
  obtain ⟨m4, b4⟩ := He.ba more
  obtain ⟨m3, b3⟩ := He.ba m4
  obtain ⟨m2, b2⟩ := He.ba m3
  obtain ⟨m1, b1⟩ := He.ba m2
  have d6 : Df K mg "is_number" (top 6) ["value"] fd6.code := df_of F6 g6 fun _ _ _ _ _ _ us hl => match us, hl with | [_], _ => rfl
  have d7 : Df K mg "is_list" (top 7) ["value"] fd7.code := df_of F7 g7 fun _ _ _ _ _ _ us hl => match us, hl with | [_], _ => rfl
  have d13 : Df K mg "is_lot" (top 13) ["many", "thing"] fd13.code := df_of F13 g13 fun _ _ _ _ _ _ us hl => match us, hl with | [_, _], _ => rfl
  have d14 : Df K mg "need_lots" (top 14) ["many", "lots"] fd14.code := df_of F14 g14 fun _ _ _ _ _ _ us hl => match us, hl with | [_, _], _ => rfl
  have d15 : Df K mg "open_lots" (top 15) ["lots", "taken"] fd15.code := df_of F15 g15 fun _ _ _ _ _ _ us hl => match us, hl with | [_, _], _ => rfl
  have d16 : Df K mg "shortest" (top 16) ["lots", "indexes"] (.ref (He.cT K ("shortest", none)).1) := df_tab F16 g16 fun _ _ _ _ _ _ us hl => match us, hl with | [_, _], _ => rfl
  have d17 : Df K mg "can_hit" (top 17) ["lots", "taken", "more", "first"] fd17.code := df_of F17 g17 fun _ _ _ _ _ _ us hl => match us, hl with | [_, _, _, _], _ => rfl
  have d18 : Df K mg "least_of" (top 18) ["many", "lots", "size"] fd18.code := df_of F18 g18 fun _ _ _ _ _ _ us hl => match us, hl with | [_, _, _], _ => rfl
  have d19 : DfK K mg "least_hits" (top 19) ["many", "lots"] fd19.code := dfK_of F19 g19 (fun _ _ _ _ _ _ us hl => match us, hl with | [_, _], _ => rfl) (fun _ _ _ _ _ _ us hl => match us, hl with | [_, _], _ => rfl)
  have d20 : Df K mg "grown" (top 20) ["lots", "taken", "more"] fd20.code := df_of F20 g20 fun _ _ _ _ _ _ us hl => match us, hl with | [_, _, _], _ => rfl
  have d21 : Df K mg "need_number" (top 21) ["number"] fd21.code := df_of F21 g21 fun _ _ _ _ _ _ us hl => match us, hl with | [_], _ => rfl
  have d22 : Df K mg "hit_tree" (top 22) ["many", "lots", "number"] fd22.code := df_of F22 g22 fun _ _ _ _ _ _ us hl => match us, hl with | [_, _, _], _ => rfl
  have d23 : Df K mg "is_hit_tree" (top 23) ["many", "lots", "number", "thing"] fd23.code := df_of F23 g23 fun _ _ _ _ _ _ us hl => match us, hl with | [_, _, _, _], _ => rfl
  have d24 : Df K mg "is_grown" (top 24) ["lots", "taken", "more", "thing"] fd24.code := df_of F24 g24 fun _ _ _ _ _ _ us hl => match us, hl with | [_, _, _, _], _ => rfl
  have d26 : Df K mg "_law_begun" (top 26) ["_law_script"] fd26.code := df_of F26 g26 fun _ _ _ _ _ _ us hl => match us, hl with | [_], _ => rfl
  have d27 : Df K mg "_law_pick" (top 27) ["_law_state", "_law_several"] fd27.code := df_of F27 g27 fun _ _ _ _ _ _ us hl => match us, hl with | [_, _], _ => rfl
  have d28 : Df K mg "_law_caught" (top 28) ["_law_work"] fd28.code := df_of F28 g28 fun _ _ _ _ _ _ us hl => match us, hl with | [_], _ => rfl
  have d29 : Df K mg "_law_mixed_up" (top 29) ["_law_state"] fd29.code := df_of F29 g29 fun _ _ _ _ _ _ us hl => match us, hl with | [_], _ => rfl
  have d30 : Df K mg "_law_draw" (top 30) ["_law_state", "_law_size_here"] fd30.code := df_of F30 g30 fun _ _ _ _ _ _ us hl => match us, hl with | [_, _], _ => rfl
  have d31 : Df K mg "_law_drawn_lots" (top 31) ["_law_state", "_law_many_here"] fd31.code := df_of F31 g31 fun _ _ _ _ _ _ us hl => match us, hl with | [_, _], _ => rfl
  have d32 : Df K mg "_law_do_hit" (top 32) ["_law_lots", "_law_gaps_here"] fd32.code := df_of F32 g32 fun _ _ _ _ _ _ us hl => match us, hl with | [_, _], _ => rfl
  have d33 : Df K mg "_law_all_lots" (top 33) ["_law_many_here"] (.ref (He.cT K ("_law_all_lots", none)).1) := df_tab F33 g33 fun _ _ _ _ _ _ us hl => match us, hl with | [_], _ => rfl
  have d34 : Df K mg "_law_bent_lots" (top 34) ["_law_state", "_law_many_here", "_law_lots"] fd34.code := df_of F34 g34 fun _ _ _ _ _ _ us hl => match us, hl with | [_, _, _], _ => rfl
  have d35 : Df K mg "law" (top 35) ["_law_script"] (.ref (He.cT K ("law", none)).1) := df_tab F35 g35 fun _ _ _ _ _ _ us hl => match us, hl with | [_], _ => rfl
  have hnd : (tfl.map fun p => (He.cT K p).2).Nodup := of_decide_eq_true m1
  have hu : ∀ p ∈ tabl K, ∀ q ∈ tabl K, p.1 = q.1 → p.2 = q.2 := by
    have hnd2 : ((tabl K).map (·.1)).Nodup := hnd
    exact tab_uniq hnd2
  refine ⟨tfl.map (He.cT K), SpLaw (tabl K) K, fun p hp => ?_, fun H a ns hl hT hS => ?_, fun base _ _ hTB => ?_⟩
  · obtain ⟨q, hq, rfl⟩ := List.mem_map.mp hp
    exact ⟨c.empty q hq, c.out q hq, PySem.W.codeHd_of_K X (c.hd q hq)⟩
  · exact ⟨a, ns, rfl, tabs_start fun p hp => by
      obtain ⟨q, hq, e⟩ : ∃ q ∈ tfl, (He.cT K q).2 = p.1 := by
        simp only [tabl, List.mem_cons, List.mem_nil_iff, or_false] at hp
        rcases hp with rfl | rfl | rfl
        · exact ⟨("shortest", none), by simp [tfl], rfl⟩
        · exact ⟨("_law_all_lots", none), by simp [tfl], rfl⟩
        · exact ⟨("law", none), by simp [tfl], rfl⟩
      rw [← e]
      exact hT _ (List.mem_map.mpr ⟨q, hq, rfl⟩), hS, hl, fun _ => rfl⟩
  have s0 : Fx.SupOk K PySem.Challenge.rw_lanesmeet_k41_fewest_gaps.prog "BadLots" "at" mt_BadLots (He.ga K "BadLots") := Fx.supB_ok b4 (cS.sup ⟨"BadLots", mt_BadLots⟩ (by simp [msl]))
  obtain ⟨cc0, cda0, S0⟩ := s0.sup
  obtain ⟨fI0, FI0, bI0⟩ := Fx.sup_ok (w := w) (mg := mg) (base := base) (CX := C8.CX0) (k := 0) (pr := "at") (f := "at") S0 (by decide +kernel) (by rfl) (by rfl) (by rfl) (by decide +kernel) s0.nof (by decide) (by decide) (by rfl) (fun L => ⟨_, by rfl⟩) (fun L => by rfl) (fun L => by rfl) (fun L => by rfl) (fun kV doc pm an ct us hl => match us, hl with | [_, _], _ => rfl)
  have C : EcOk PySem.Challenge.rw_lanesmeet_k41_fewest_gaps.prog w K mg base ⟨He.ga K "LaneError", He.ga K "BadMany", He.ga K "BadLots", He.ga K "BadNumber"⟩ := {
    LaneError := xcl_of (He.glo_ok X G (c1.fact 42 (f := .glo "LaneError") rfl)) (c1.fact 46 (f := .exc "LaneError") rfl)
    BadMany := xcl_of (He.glo_ok X G (c1.fact 43 (f := .glo "BadMany") rfl)) (c1.fact 47 (f := .exc "BadMany") rfl)
    BadLots := ⟨He.glo_ok X G (c1.fact 44 (f := .glo "BadLots") rfl), S0.cls, _, fI0, _, s0.ini, s0.fty, FI0, bI0⟩
    BadNumber := xcl_of (He.glo_ok X G (c1.fact 45 (f := .glo "BadNumber") rfl)) (c1.fact 48 (f := .exc "BadNumber") rfl)
    cau := fun c hc => by
      simp only [List.mem_cons, List.mem_nil_iff, or_false] at hc
      rcases hc with rfl | rfl | rfl
      · exact (Fx.isB_ok b2).1
      · exact (Fx.isB_ok b1).1
      · exact (Fx.isB_ok b3).1
    isi := fun c hc => by
      simp only [List.mem_cons, List.mem_nil_iff, or_false] at hc
      rcases hc with rfl | rfl
      · exact (Fx.isB_ok b2).2
      · exact (Fx.isB_ok b1).2
    fld := fun c hc => by
      simp only [List.mem_cons, List.mem_nil_iff, or_false] at hc
      rcases hc with rfl
      · exact ⟨s0.xf, s0.nof⟩
  }
  have tb_shortest : TabB base mg (He.cT K ("shortest", none)).1 (He.cT K ("shortest", none)).2 := hTB (He.cT K ("shortest", none)) (List.mem_map.mpr ⟨("shortest", none), by simp [tfl], rfl⟩)
  have ht_shortest : ((He.cT K ("shortest", none)).2, ("shortest.<locals>.<lambda>" : Str)) ∈ tabl K := by simp [tabl]
  have hu_shortest : ∀ p ∈ tabl K, p.1 = (He.cT K ("shortest", none)).2 → p.2 = ("shortest.<locals>.<lambda>" : Str) := fun p hp e => hu p hp _ ht_shortest e
  have tb__law_all_lots : TabB base mg (He.cT K ("_law_all_lots", none)).1 (He.cT K ("_law_all_lots", none)).2 := hTB (He.cT K ("_law_all_lots", none)) (List.mem_map.mpr ⟨("_law_all_lots", none), by simp [tfl], rfl⟩)
  have ht__law_all_lots : ((He.cT K ("_law_all_lots", none)).2, ("_law_all_lots.<locals>.<lambda>" : Str)) ∈ tabl K := by simp [tabl]
  have hu__law_all_lots : ∀ p ∈ tabl K, p.1 = (He.cT K ("_law_all_lots", none)).2 → p.2 = ("_law_all_lots.<locals>.<lambda>" : Str) := fun p hp e => hu p hp _ ht__law_all_lots e
  have tb_law : TabB base mg (He.cT K ("law", none)).1 (He.cT K ("law", none)).2 := hTB (He.cT K ("law", none)) (List.mem_map.mpr ⟨("law", none), by simp [tfl], rfl⟩)
  have ht_law : ((He.cT K ("law", none)).2, ("law.<locals>.<lambda>" : Str)) ∈ tabl K := by simp [tabl]
  have hu_law : ∀ p ∈ tabl K, p.1 = (He.cT K ("law", none)).2 → p.2 = ("law.<locals>.<lambda>" : Str) := fun p hp e => hu p hp _ ht_law e
  have c26 := ok_law_begun (P := PySem.Challenge.rw_lanesmeet_k41_fewest_gaps.prog) (w := w) (base := base) (T := tabl K) d26 B
  have c29 := ok_law_mixed_up (P := PySem.Challenge.rw_lanesmeet_k41_fewest_gaps.prog) (w := w) (base := base) (T := tabl K) d29 B
  have c30 := ok_law_draw (P := PySem.Challenge.rw_lanesmeet_k41_fewest_gaps.prog) (w := w) (base := base) (T := tabl K) d30 B c29
  have c31 := ok_law_drawn_lots (P := PySem.Challenge.rw_lanesmeet_k41_fewest_gaps.prog) (w := w) (base := base) (T := tabl K) d31 B C c30
  have c33 := ok_law_all_lots (P := PySem.Challenge.rw_lanesmeet_k41_fewest_gaps.prog) (w := w) (base := base) (T := tabl K) d33 tb__law_all_lots ht__law_all_lots hu__law_all_lots B C
  have c32 := ok_law_do_hit (P := PySem.Challenge.rw_lanesmeet_k41_fewest_gaps.prog) (w := w) (base := base) (T := tabl K) d32 B C
  have c6 := ok_is_number (P := PySem.Challenge.rw_lanesmeet_k41_fewest_gaps.prog) (w := w) (base := base) (T := tabl K) d6 B C
  have c7 := ok_is_list (P := PySem.Challenge.rw_lanesmeet_k41_fewest_gaps.prog) (w := w) (base := base) (T := tabl K) d7 B C
  have c13 := ok_is_lot (P := PySem.Challenge.rw_lanesmeet_k41_fewest_gaps.prog) (w := w) (base := base) (T := tabl K) d13 B C c6
  have c14 := ok_need_lots (P := PySem.Challenge.rw_lanesmeet_k41_fewest_gaps.prog) (w := w) (base := base) (T := tabl K) d14 B C c6 c7 c13
  have c15 := ok_open_lots (P := PySem.Challenge.rw_lanesmeet_k41_fewest_gaps.prog) (w := w) (base := base) (T := tabl K) d15 B C
  have c16 := ok_shortest (P := PySem.Challenge.rw_lanesmeet_k41_fewest_gaps.prog) (w := w) (base := base) (T := tabl K) d16 tb_shortest ht_shortest hu_shortest B C
  have c17 := ok_can_hit (P := PySem.Challenge.rw_lanesmeet_k41_fewest_gaps.prog) (w := w) (base := base) (T := tabl K) d17 B C c15 c16
  have c18 := ok_least_of (P := PySem.Challenge.rw_lanesmeet_k41_fewest_gaps.prog) (w := w) (base := base) (T := tabl K) d18 B C c17
  have c19 := ok_least_hits (P := PySem.Challenge.rw_lanesmeet_k41_fewest_gaps.prog) (w := w) (base := base) (T := tabl K) d19 B C c14 c17 c18
  have c27 := ok_law_pick (P := PySem.Challenge.rw_lanesmeet_k41_fewest_gaps.prog) (w := w) (base := base) (T := tabl K) d27 B C c30
  have c34 := ok_law_bent_lots (P := PySem.Challenge.rw_lanesmeet_k41_fewest_gaps.prog) (w := w) (base := base) (T := tabl K) d34 B C c30 c27
  have c21 := ok_need_number (P := PySem.Challenge.rw_lanesmeet_k41_fewest_gaps.prog) (w := w) (base := base) (T := tabl K) d21 B C c6
  have c20 := ok_grown (P := PySem.Challenge.rw_lanesmeet_k41_fewest_gaps.prog) (w := w) (base := base) (T := tabl K) (ec := ⟨He.ga K "LaneError", He.ga K "BadMany", He.ga K "BadLots", He.ga K "BadNumber"⟩) d20
  have c22 := ok_hit_tree (P := PySem.Challenge.rw_lanesmeet_k41_fewest_gaps.prog) (w := w) (base := base) (T := tabl K) d22 B C c14 c21 c17 c20
  have c24 := ok_is_grown (P := PySem.Challenge.rw_lanesmeet_k41_fewest_gaps.prog) (w := w) (base := base) (T := tabl K) (ec := ⟨He.ga K "LaneError", He.ga K "BadMany", He.ga K "BadLots", He.ga K "BadNumber"⟩) d24
  have c23 := ok_is_hit_tree (P := PySem.Challenge.rw_lanesmeet_k41_fewest_gaps.prog) (w := w) (base := base) (T := tabl K) d23 B C c14 c21 c24
  exact ok_law (P := PySem.Challenge.rw_lanesmeet_k41_fewest_gaps.prog) (w := w) (base := base) (T := tabl K) d35 tb_law ht_law hu_law B C d28 c26 c30 c31 c33 c32 c19 c34 c22 c23 c27 (fun _ _ _ _ _ _ _ h => law_goal h)
end K41
open PySem PySem.W PySem.Calls PyProof.Rows
set_option maxRecDepth 100000 in
set_option maxHeartbeats 0 in
theorem PySem.Challenge.cw_lanesmeet_k41_fewest_gaps_holds : PySem.Challenge.rw_lanesmeet_k41_fewest_gaps.Holds := by
  w_on; o_law
  refine HandSHeadRun.head_any (r := OpenLaw.row PySem.Challenge.rw_lanesmeet_k41_fewest_gaps) (q := view (OpenLaw.row PySem.Challenge.rw_lanesmeet_k41_fewest_gaps).prog [35]) (H := K41.hk) (ob := K41.ob) (M := 4000) (loose := K41.loose) (d := HandSHeadRun.topDef (OpenLaw.row PySem.Challenge.rw_lanesmeet_k41_fewest_gaps).prog 35) (kwd := []) K41.ob_eq
    (by kernel_rfl) (fun s => by kernel_rfl) K41.run (by kernel_rfl) (by kernel_rfl) (by kernel_rfl) (by rfl) (by first | assumption | decide +kernel) (by decide +kernel) ⟨rfl, rfl, rfl, rfl, rfl, by decide +kernel⟩ ?hw ?hc
  case hw => w_witness2
  case hc =>
    have en : (HandSHeadRun.topDef (OpenLaw.row PySem.Challenge.rw_lanesmeet_k41_fewest_gaps).prog 35).name = ("law" : PySem.Str) := by kernel_rfl
    refine Fx.walk_G (l := PySem.Challenge.rw_lanesmeet_k41_fewest_gaps) (n := 63) (k := 33) (y := "_law_script") rfl (by decide) (by kernel_rfl) ⟨rfl, by decide, by decide⟩ ?F
    intro w mg fa h Y G hmg
    obtain ⟨K, KX, c⟩ := Y
    rw [en]
    exact ⟨K, KX, K41.law_at KX G c⟩

