import PyProof.Rows.All
import Wide.All
import OpenK.AllK
import Wide.FinOn
import HandS.ForMost
import HandS.Lambda
import HandS.EndTab
import HandS.Wide
import HandS.Deep
import HandS.Flow
import HandS.Style
import HandS.TupAny
import HandS.Zip
import HandS.Star
import HandS.IsInst
import HandS.SortInts
import HandS.Conv
import HandS.DictComp
import HandS.Exc
import HandS.ExcOwn
import HandS.ExcIs
import HandS.TryOnly
import HandS.SortKw
import KE.KMinKey
import HandS.Iter
import HandS.WordsDict
import HandS.Head0
import HandS.Head1
import HandS.Head2
import HandS.HeadEnd
import HandS.HeadHook1
import HandS.HeadHook2
import HandS.HeadHook3
import HandS.HeadHook4
import HandS.HeadWalk
import HandS.SetFor
import HandS.Strs
import HandS.ExcField
import KE.KExcIs
import HandS.Text
import HandS.RaiseMore
import KE.KRevSl
import KE.KDictList
import HandS.EndBits
import KE.KStateDown
import PySem.Challenge.RW_lanesmeet_k62_layings_and_banks
set_option Elab.async false
set_option linter.all false
set_option maxRecDepth 100000
set_option maxHeartbeats 4000000
/-! A calculus of data over the hand layer: what an expression, a test, a statement makes of plain data. -/
namespace Fx
open PySem PySem.Spec PyProof.Rows L2

/-! ### data -/
inductive D where
  | non | bl (b : Bool) | int (i : Int) | str (s : Str)
  | tup (ds : List D) | lst (ds : List D) | dic (kvs : List (Key × D)) | raw (v : V)
  | exc (C : Addr) (fs : List (Str × D))

/-- an exception of the class at C lies at a, its dict at d -/
def ExO (C a : Addr) (d : Option Addr) : HO := .ext fun h => ∃ (o : Obj) (vs : Array Value), h.get? a = some o ∧ Zc (.ref C) d o ∧ o.data = .fields vs
mutual
/-- in the part G of the heap v stands for d -/
inductive Rp (G : Hp) : V → D → Prop
  | non : Rp G .non .non
  | bl (b : Bool) : Rp G (.bl b) (.bl b)
  | int (i : Int) : Rp G (.int i) (.int i)
  | str (s : Str) : Rp G (.str s) (.str s)
  | raw (v : V) : Rp G v (.raw v)
  | tup {a : Addr} {xs : List V} {ds : List D} : G a = some (.tup xs) → RpL G xs ds → Rp G (.ref a) (.tup ds)
  | lst {a : Addr} {xs : List V} {ds : List D} : G a = some (.lst xs) → RpL G xs ds → Rp G (.ref a) (.lst ds)
  | dic {a : Addr} {o : Obj} {kvs : List (Key × V)} {kds : List (Key × D)} : G a = some (.frz o (.dK kvs)) → RpK G kvs kds → Rp G (.ref a) (.dic kds)
  | exc0 {a C : Addr} : G a = some (ExO C a none) → Rp G (.ref a) (.exc C [])
  | exc1 {a C dd : Addr} {vs : List (Str × V)} {fs : List (Str × D)} : G a = some (ExO C a (some dd)) → G dd = some (.xd vs) → RpF G vs fs → Rp G (.ref a) (.exc C fs)
inductive RpL (G : Hp) : List V → List D → Prop
  | nil : RpL G [] []
  | cons {v : V} {vs : List V} {d : D} {ds : List D} : Rp G v d → RpL G vs ds → RpL G (v :: vs) (d :: ds)
inductive RpK (G : Hp) : List (Key × V) → List (Key × D) → Prop
  | nil : RpK G [] []
  | cons {k : Key} {v : V} {vs : List (Key × V)} {d : D} {ds : List (Key × D)} : Rp G v d → RpK G vs ds → RpK G ((k, v) :: vs) ((k, d) :: ds)
inductive RpF (G : Hp) : List (Str × V) → List (Str × D) → Prop
  | nil : RpF G [] []
  | cons {k : Str} {v : V} {vs : List (Str × V)} {d : D} {ds : List (Str × D)} : Rp G v d → RpF G vs ds → RpF G ((k, v) :: vs) ((k, d) :: ds)
end
mutual
theorem Rp.mono {G G' : Hp} (e : Same G G') : ∀ {v : V} {d : D}, Rp G v d → Rp G' v d
  | _, _, .non => .non
  | _, _, .bl b => .bl b
  | _, _, .int i => .int i
  | _, _, .str s => .str s
  | _, _, .raw v => .raw v
  | _, _, .tup h r => .tup (e _ _ h) (RpL.mono e r)
  | _, _, .lst h r => .lst (e _ _ h) (RpL.mono e r)
  | _, _, .dic h r => .dic (e _ _ h) (RpK.mono e r)
  | _, _, .exc0 h => .exc0 (e _ _ h)
  | _, _, .exc1 h h' r => .exc1 (e _ _ h) (e _ _ h') (RpF.mono e r)
theorem RpL.mono {G G' : Hp} (e : Same G G') : ∀ {vs : List V} {ds : List D}, RpL G vs ds → RpL G' vs ds
  | _, _, .nil => .nil
  | _, _, .cons h r => .cons (Rp.mono e h) (RpL.mono e r)
theorem RpK.mono {G G' : Hp} (e : Same G G') : ∀ {vs : List (Key × V)} {ds : List (Key × D)}, RpK G vs ds → RpK G' vs ds
  | _, _, .nil => .nil
  | _, _, .cons h r => .cons (Rp.mono e h) (RpK.mono e r)
theorem RpF.mono {G G' : Hp} (e : Same G G') : ∀ {vs : List (Str × V)} {ds : List (Str × D)}, RpF G vs ds → RpF G' vs ds
  | _, _, .nil => .nil
  | _, _, .cons h r => .cons (Rp.mono e h) (RpF.mono e r)
end
theorem RpF.lookup {G : Hp} {f : Str} {d : D} : ∀ {vs : List (Str × V)} {fs : List (Str × D)}, RpF G vs fs → fs.lookup f = some d → ∃ v, vs.lookup f = some v ∧ Rp G v d
  | _, _, .nil, e => by simp at e
  | _, _, .cons (k := k) h r, e => by
    rw [List.lookup_cons] at e ⊢
    cases q : f == k with
    | true => rw [q] at e; cases e; exact ⟨_, rfl, h⟩
    | false => rw [q] at e; exact RpF.lookup r e
/-- the dict of an exception -/
def XDat (G : Hp) : Option Addr → List (Str × D) → Prop
  | none, fs => fs = []
  | some a, fs => ∃ vs, G a = some (.xd vs) ∧ RpF G vs fs
theorem XDat.mono {G G' : Hp} (e : Same G G') {d : Option Addr} {fs : List (Str × D)} (x : XDat G d fs) : XDat G' d fs := by
  cases d with
  | none => exact x
  | some a =>
    obtain ⟨vs, h, r⟩ := x
    exact ⟨vs, e _ _ h, r.mono e⟩
theorem XDat.rp {G : Hp} {a C : Addr} {d : Option Addr} {fs : List (Str × D)} (x : XDat G d fs) (h : G a = some (ExO C a d)) : Rp G (.ref a) (.exc C fs) := by
  cases d with
  | none =>
    have x : fs = [] := x
    rw [x]
    exact .exc0 h
  | some b =>
    obtain ⟨vs, h', r⟩ := x
    exact .exc1 h h' r
theorem noTb_ext (φ : Heap → Prop) : (∀ ps, HO.ext φ ≠ .tbl ps) := fun _ z => by cases z
theorem RpL.len {G : Hp} : ∀ {vs : List V} {ds : List D}, RpL G vs ds → vs.length = ds.length
  | _, _, .nil => rfl
  | _, _, .cons _ r => congrArg (· + 1) (RpL.len r)
theorem RpL.app {G : Hp} : ∀ {vs ws : List V} {ds es : List D}, RpL G vs ds → RpL G ws es → RpL G (vs ++ ws) (ds ++ es)
  | _, _, _, _, .nil, s => s
  | _, _, _, _, .cons h r, s => .cons h (RpL.app r s)
theorem RpL.get {G : Hp} : ∀ {vs : List V} {ds : List D} {i : Nat} {d : D}, RpL G vs ds → ds[i]? = some d → ∃ v, vs[i]? = some v ∧ Rp G v d
  | _, _, _, _, .nil, e => by simp at e
  | _, _, 0, _, .cons h _, e => by simp at e; subst e; exact ⟨_, rfl, h⟩
  | _, _, i + 1, d, .cons _ r, e => by
    obtain ⟨v, h1, h2⟩ := RpL.get (i := i) r (by simpa using e)
    exact ⟨v, by simpa using h1, h2⟩
theorem RpL.getV {G : Hp} : ∀ {vs : List V} {ds : List D} {i : Nat} {v : V}, RpL G vs ds → vs[i]? = some v → ∃ d, ds[i]? = some d ∧ Rp G v d
  | _, _, _, _, .nil, e => by simp at e
  | _, _, 0, _, .cons h _, e => by simp at e; subst e; exact ⟨_, rfl, h⟩
  | _, _, i + 1, d, .cons _ r, e => by
    obtain ⟨v, h1, h2⟩ := RpL.getV (i := i) r (by simpa using e)
    exact ⟨v, by simpa using h1, h2⟩
theorem RpL.take {G : Hp} : ∀ {vs : List V} {ds : List D} (n : Nat), RpL G vs ds → RpL G (vs.take n) (ds.take n)
  | _, _, 0, _ => .nil
  | _, _, _ + 1, .nil => .nil
  | _, _, n + 1, .cons h r => .cons h (RpL.take n r)
theorem RpL.drop {G : Hp} : ∀ {vs : List V} {ds : List D} (n : Nat), RpL G vs ds → RpL G (vs.drop n) (ds.drop n)
  | _, _, 0, r => r
  | _, _, _ + 1, .nil => .nil
  | _, _, n + 1, .cons _ r => RpL.drop n r
theorem RpL.set {G : Hp} {v : V} {d : D} (h : Rp G v d) : ∀ {vs : List V} {ds : List D} (n : Nat), RpL G vs ds → RpL G (vs.set n v) (ds.set n d)
  | _, _, _, .nil => .nil
  | _, _, 0, .cons _ r => .cons h r
  | _, _, n + 1, .cons q r => .cons q (RpL.set h n r)
theorem RpL.ints {G : Hp} : ∀ {vs : List V} {ns : List Int}, RpL G vs (ns.map D.int) → vs = ns.map V.int
  | _, [], .nil => rfl
  | _, n :: ns, .cons h r => by
    cases h
    rw [RpL.ints r]; rfl
theorem RpL.of_ints {G : Hp} : ∀ (ns : List Int), RpL G (ns.map V.int) (ns.map D.int)
  | [] => .nil
  | n :: ns => .cons (.int n) (RpL.of_ints ns)
theorem RpL.bls {G : Hp} : ∀ {vs : List V} {ns : List Bool}, RpL G vs (ns.map D.bl) → vs = ns.map V.bl
  | _, [], .nil => rfl
  | _, n :: ns, .cons h r => by
    cases h
    rw [RpL.bls r]; rfl

/-! ### worlds: what may change, what holds of it -/
def NoTb (o : HO) : Prop := ∀ ps, o ≠ .tbl ps
/-- nothing is tracked at a, but a table perhaps -/
def Nf (H : Hp) (a : Addr) : Prop := ∀ o, H a = some o → ¬ NoTb o
theorem nf_none {H : Hp} {a : Addr} (h : H a = none) : Nf H a := fun o e => by rw [h] at e; cases e
theorem nf_no {H : Hp} {a : Addr} {o : HO} (h : H a = some o) (n : NoTb o) : ¬ Nf H a := fun z => z o h n
structure Wld (T : List (Addr × Str)) where
  M : Addr → Prop
  J : Nat → Hp → Prop
  tabs : ∀ {c : Nat} {H : Hp}, J c H → LamX.Tabs T H
  mono : ∀ {c c' : Nat} {H : Hp}, c ≤ c' → J c H → J c' H
  pure : ∀ {c : Nat} {H H' : Hp}, J c H → (∀ a o, H a = some o → NoTb o → H' a = some o) → LamX.Tabs T H' → J c H'
  mtr : ∀ {c : Nat} {H : Hp} {a : Addr}, J c H → M a → ¬ Nf H a
  updl : ∀ {c : Nat} {H : Hp} {l : Addr} {xs ys : List V}, J c H → ¬ M l → H l = some (.lst xs) → J c (upd H l (.lst ys))
  upddk : ∀ {c : Nat} {H : Hp} {l : Addr} {xs : List (Key × V)} {o : HO}, J c H → ¬ M l → H l = some (.dK xs) → J c (upd H l o)

theorem same_new {H : Hp} {p : Addr} (h : H p = none) (o : HO) : Same H (upd H p o) := fun b u q => by rw [upd_ne (ne_of_none q h)]; exact q
theorem tabs_same {T : List (Addr × Str)} {H H' : Hp} (t : LamX.Tabs T H) (e : Same H H') : LamX.Tabs T H' := t.ext e
theorem tabs_upd {T : List (Addr × Str)} {H : Hp} {l : Addr} {xs ys : List V} (t : LamX.Tabs T H) (hl : H l = some (.lst xs)) : LamX.Tabs T (upd H l (.lst ys)) := fun p hp => by
  obtain ⟨ps, h1, h2, h3⟩ := t p hp
  have n1 : p.1 ≠ l := ne_of h1 hl (by intro z; cases z)
  refine ⟨ps, by rw [upd_ne n1]; exact h1, h2, fun pos cv hc => ?_⟩
  obtain ⟨c, e1, e2⟩ := h3 pos cv hc
  have n2 : c ≠ l := ne_of e2 hl (by intro z; unfold LamX.CodeO at z; cases z)
  exact ⟨c, e1, by rw [upd_ne n2]; exact e2⟩
theorem tabs_updd {T : List (Addr × Str)} {H : Hp} {l : Addr} {xs : List (Key × V)} {o : HO} (t : LamX.Tabs T H) (hl : H l = some (.dK xs)) : LamX.Tabs T (upd H l o) := fun p hp => by
  obtain ⟨ps, h1, h2, h3⟩ := t p hp
  have n1 : p.1 ≠ l := ne_of h1 hl (by intro z; cases z)
  refine ⟨ps, by rw [upd_ne n1]; exact h1, h2, fun pos cv hc => ?_⟩
  obtain ⟨c, e1, e2⟩ := h3 pos cv hc
  have n2 : c ≠ l := ne_of e2 hl (by intro z; unfold LamX.CodeO at z; cases z)
  exact ⟨c, e1, by rw [upd_ne n2]; exact e2⟩
/-- nothing but tables changes -/
def W0 (T : List (Addr × Str)) : Wld T where
  M := fun _ => False
  J := fun _ H => LamX.Tabs T H
  tabs := fun h => h
  mono := fun _ h => h
  pure := fun _ _ h => h
  mtr := fun _ h => h.elim
  updl := fun h _ hl => tabs_upd h hl
  upddk := fun h _ hl => tabs_updd h hl

section
variable {T : List (Addr × Str)} {W : Wld T} {G H G1 H1 G2 H2 H0 : Hp} {G0 : Hp × Hp} {c c' k : Nat}
/-- G: the part that stands still -/
def GOk (W : Wld T) (G H : Hp) : Prop := ∀ a o, G a = some o → H a = some o ∧ NoTb o ∧ ¬ W.M a
structure Stp (W : Wld T) (G H G' H' : Hp) : Prop where
  gg : Same G G'
  hh : ∀ a o, H a = some o → ¬ W.M a → NoTb o → H' a = some o
  fr : ∀ a, G' a ≠ none → G a ≠ none ∨ Nf H a
  dom : ∀ a, Nf H' a → Nf H a
theorem Stp.refl : Stp W G H G H := ⟨fun _ _ h => h, fun _ _ h _ _ => h, fun _ h => .inl h, fun _ h => h⟩
theorem Stp.trans (a : Stp W G H G1 H1) (b : Stp W G1 H1 G2 H2) : Stp W G H G2 H2 :=
  ⟨a.gg.trans b.gg, fun x o h m n => b.hh x o (a.hh x o h m n) m n, fun x h => (b.fr x h).elim (a.fr x) fun z => .inr (a.dom x z), fun x h => a.dom x (b.dom x h)⟩
theorem Stp.lift (s : Stp (W0 T) G H G1 H1) : Stp W G H G1 H1 := ⟨s.gg, fun a o h _ n => s.hh a o h (fun z => z) n, s.fr, s.dom⟩
theorem GOk.lift (g : GOk W G H) (j : W.J c H) (s : Stp (W0 T) G H G1 H1) (g1 : GOk (W0 T) G1 H1) : GOk W G1 H1 := fun a o h => by
  obtain ⟨h1, h2, _⟩ := g1 a o h
  refine ⟨h1, h2, fun m => ?_⟩
  rcases s.fr a (by rw [h]; simp) with z | z
  · cases q : G a with
    | none => exact z q
    | some u => exact (g a u q).2.2 m
  · exact W.mtr j m z
theorem J_lift (j : W.J c H) (s : Stp (W0 T) G H G1 H1) (t : LamX.Tabs T H1) : W.J c H1 := W.pure j (fun a o h n => s.hh a o h (fun z => z) n) t
theorem GOk.drop (g : GOk W G H) : GOk (W0 T) G H := fun a o h => let ⟨h1, h2, _⟩ := g a o h; ⟨h1, h2, fun z => z⟩
theorem GOk.same (g : GOk W G H) : Same G H := fun a o h => (g a o h).1
theorem GOk.none (g : GOk W G H) {a : Addr} (h : H a = Option.none) : G a = Option.none := by
  cases q : G a with
  | none => rfl
  | some o => rw [(g a o q).1] at h; cases h

/-- a new object that stands still -/
theorem stp_new {p : Addr} {o : HO} (g : GOk W G H) (hp : H p = none) : Stp W G H (upd G p o) (upd H p o) :=
  ⟨same_new (g.none hp) o, fun a u h _ _ => same_new hp o a u h, fun a h => by
    by_cases e : a = p
    · exact .inr (by rw [e]; exact nf_none hp)
    · rw [upd_ne e] at h; exact .inl h, fun a h => by
    by_cases e : a = p
    · rw [e]; exact nf_none hp
    · unfold Nf at h; rw [upd_ne e] at h; exact h⟩
theorem gok_new {p : Addr} {o : HO} (g : GOk W G H) (j : W.J c H) (hp : H p = none) (n : NoTb o) : GOk W (upd G p o) (upd H p o) := fun a u h => by
  by_cases e : a = p
  · subst e
    rw [upd_same] at h ⊢
    cases h
    exact ⟨rfl, n, fun m => W.mtr j m (nf_none hp)⟩
  · rw [upd_ne e] at h ⊢
    exact g a u h
theorem J_new {p : Addr} {o : HO} (j : W.J c H) (hp : H p = none) : W.J c (upd H p o) := W.pure j (fun a u h _ => same_new hp o a u h) (tabs_same (W.tabs j) (same_new hp o))
theorem J_same (j : W.J c H) (e : Same H H1) : W.J c H1 := W.pure j (fun a u h _ => e a u h) (tabs_same (W.tabs j) e)
theorem noTb_tup (xs : List V) : NoTb (.tup xs) := fun _ z => by cases z
theorem noTb_lst (xs : List V) : NoTb (.lst xs) := fun _ z => by cases z
theorem noTb_dK (xs : List (Key × V)) : NoTb (.dK xs) := fun _ z => by cases z
theorem noTb_frz (o : Obj) (u : HO) : NoTb (.frz o u) := fun _ z => by cases z

/-! ### environments -/
inductive Slot where
  | emp | dat (d : D) | mu (ds : List D) | md (kvs : List (Key × D))
abbrev Env' := List Slot
/-- what the frame alone holds, as it stands now -/
inductive RpM (G : Hp) : HO → Slot → Prop
  | mu {xs : List V} {ds : List D} : RpL G xs ds → RpM G (.lst xs) (.mu ds)
  | md {xs : List (Key × V)} {kvs : List (Key × D)} : RpK G xs kvs → RpM G (.dK xs) (.md kvs)
def Slot.isM : Slot → Bool
  | .mu _ => true
  | .md _ => true
  | _ => false
theorem RpM.mono {G G' : Hp} (e : Same G G') {o : HO} {s : Slot} (r : RpM G o s) : RpM G' o s := by
  cases r with
  | mu r => exact .mu (r.mono e)
  | md r => exact .md (r.mono e)
theorem RpM.no {G : Hp} {o : HO} {s : Slot} (r : RpM G o s) : NoTb o := by
  cases r with
  | mu r => exact fun _ z => by cases z
  | md r => exact fun _ z => by cases z

structure EnvOk (W : Wld T) (H0 G H : Hp) (σ : L2.St) (env : Env') : Prop where
  len : σ.length = env.length
  dat : ∀ (i : Nat) (d : D), env[i]? = some (.dat d) → ∃ v, σ[i]? = some (some v) ∧ Rp G v d
  mus : ∀ (i : Nat) (s : Slot), env[i]? = some s → s.isM = true → ∃ l o, σ[i]? = some (some (.ref l)) ∧ H l = some o ∧ G l = none ∧ RpM G o s ∧ ¬ W.M l ∧ Nf H0 l
  apart : ∀ (i j : Nat) (s t : Slot) (l : Addr), i ≠ j → env[i]? = some s → env[j]? = some t → s.isM = true → t.isM = true → σ[i]? = some (some (.ref l)) → σ[j]? ≠ some (some (.ref l))
theorem EnvOk.mu {σ : L2.St} {env : Env'} (E : EnvOk W H0 G H σ env) (i : Nat) (ds : List D) (h : env[i]? = some (.mu ds)) : ∃ l xs, σ[i]? = some (some (.ref l)) ∧ H l = some (.lst xs) ∧ G l = none ∧ RpL G xs ds ∧ ¬ W.M l ∧ Nf H0 l := by
  obtain ⟨l, o, h1, h2, h3, h4, h5⟩ := E.mus i _ h rfl
  cases h4 with
  | mu r => exact ⟨l, _, h1, h2, h3, r, h5⟩
theorem EnvOk.md {σ : L2.St} {env : Env'} (E : EnvOk W H0 G H σ env) (i : Nat) (ds : List (Key × D)) (h : env[i]? = some (.md ds)) : ∃ l xs, σ[i]? = some (some (.ref l)) ∧ H l = some (.dK xs) ∧ G l = none ∧ RpK G xs ds ∧ ¬ W.M l ∧ Nf H0 l := by
  obtain ⟨l, o, h1, h2, h3, h4, h5⟩ := E.mus i _ h rfl
  cases h4 with
  | md r => exact ⟨l, _, h1, h2, h3, r, h5⟩
structure At (W : Wld T) (G0 : Hp × Hp) (H0 : Hp) (c : Nat) (G H : Hp) (σ : L2.St) (env : Env') : Prop where
  st : Stp W G0.2 H0 G H
  sb : Same G0.1 G
  gok : GOk W G H
  j : W.J c H
  env : EnvOk W H0 G H σ env
theorem At.step {σ : L2.St} {env : Env'} (A : At W G0 H0 c G H σ env) (s : Stp W G H G1 H1) (g : GOk W G1 H1) (j : W.J c' H1) : At W G0 H0 c' G1 H1 σ env := by
  refine ⟨A.st.trans s, A.sb.trans s.gg, g, j, A.env.len, fun i d h => ?_, fun i x h hm => ?_, A.env.apart⟩
  · obtain ⟨v, e, r⟩ := A.env.dat i d h
    exact ⟨v, e, r.mono s.gg⟩
  · obtain ⟨l, o, e, hl, gl, r, m, n⟩ := A.env.mus i x h hm
    refine ⟨l, o, e, s.hh l _ hl m r.no, ?_, r.mono s.gg, m, n⟩
    cases q : G1 l with
    | none => rfl
    | some o =>
      rcases s.fr l (by rw [q]; simp) with z | z
      · exact absurd gl z
      · exact absurd z (nf_no hl r.no)
/-- slot i is given what is not changed; all that changes stays -/
theorem At.setX {σ : L2.St} {env : Env'} (A : At W G0 H0 c G H σ env) (i : Nat) (x : Option V) (s : Slot) (hs : s.isM = false) (hd : ∀ d, s = .dat d → ∃ v, x = some v ∧ Rp G v d) : At W G0 H0 c G H (σ.set i x) (env.set i s) := by
  have key : ∀ (k : Nat) (t : Slot), t.isM = true → (env.set i s)[k]? = some t → k ≠ i := fun k t ht h e => by
    subst e
    by_cases hl : k < env.length
    · rw [List.getElem?_set_self hl] at h
      rw [← Option.some.inj h, hs] at ht
      cases ht
    · rw [List.getElem?_eq_none (by simpa using hl)] at h; cases h
  refine ⟨A.st, A.sb, A.gok, A.j, by rw [List.length_set, List.length_set, A.env.len], fun k e h => ?_, fun k t h hm => ?_, fun p q t u l ne h1 h2 m1 m2 h3 => ?_⟩
  · by_cases hk : k = i
    · subst hk
      by_cases hl : k < env.length
      · rw [List.getElem?_set_self hl] at h
        obtain ⟨v, ex, r⟩ := hd e (Option.some.inj h)
        exact ⟨v, by rw [ex]; exact List.getElem?_set_self (by rw [A.env.len]; exact hl), r⟩
      · rw [List.getElem?_eq_none (by simpa using hl)] at h; cases h
    · rw [List.getElem?_set_ne (Ne.symm hk)] at h ⊢
      exact A.env.dat k e h
  · have n := key k t hm h
    rw [List.getElem?_set_ne (Ne.symm n)] at h ⊢
    exact A.env.mus k t h hm
  · have n1 := key p t m1 h1
    have n2 := key q u m2 h2
    rw [List.getElem?_set_ne (Ne.symm n1)] at h1 h3
    rw [List.getElem?_set_ne (Ne.symm n2)] at h2 ⊢
    exact A.env.apart p q t u l ne h1 h2 m1 m2 h3
/-- a slot is given data -/
theorem At.setD {σ : L2.St} {env : Env'} {v : V} {d : D} (A : At W G0 H0 c G H σ env) (i : Nat) (r : Rp G v d) : At W G0 H0 c G H (σ.set i (some v)) (env.set i (.dat d)) :=
  A.setX i (some v) (.dat d) rfl fun d' e => by cases e; exact ⟨v, rfl, r⟩
/-- a slot is forgotten -/
theorem At.drop {σ : L2.St} {env : Env'} (A : At W G0 H0 c G H σ env) (i : Nat) (x : Option V) : At W G0 H0 c G H (σ.set i x) (env.set i .emp) :=
  A.setX i x .emp rfl fun d' e => by cases e
def wipeE (env : Env') : List Nat → Env'
  | [] => env
  | v :: vs => (wipeE env vs).set v .emp
theorem At.wipe {σ : L2.St} {env : Env'} (A : At W G0 H0 c G H σ env) : ∀ vs : List Nat, At W G0 H0 c G H (wipe σ vs) (wipeE env vs)
  | [] => A
  | v :: vs => by
    unfold L2.wipe wipeE
    exact (At.wipe A vs).drop v none
theorem wipe_get {σ : L2.St} {i : Nat} : ∀ {vs : List Nat}, (wipe σ vs)[i]? = if i ∈ vs ∧ i < σ.length then some none else σ[i]?
  | [] => by simp [L2.wipe]
  | v :: vs => by
    unfold L2.wipe
    rw [List.getElem?_set, wipe_get (vs := vs), wipe_length]
    by_cases h1 : v = i
    · subst h1
      by_cases h2 : v < σ.length
      · simp [h2]
      · simp [h2]
    · rw [if_neg h1]
      have : (i ∈ v :: vs) = (i ∈ vs) := by
        simp only [List.mem_cons, eq_iff_iff]
        exact ⟨fun z => z.resolve_left fun e => h1 e.symm, .inr⟩
      simp only [this]
theorem wipe_set {σ : L2.St} {j : Nat} {x : Option V} {vs : List Nat} (h : j ∈ vs) : wipe (σ.set j x) vs = wipe σ vs := by
  apply List.ext_getElem?
  intro i
  rw [wipe_get, wipe_get, List.length_set]
  by_cases c : i ∈ vs ∧ i < σ.length
  · rw [if_pos c, if_pos c]
  · rw [if_neg c, if_neg c]
    by_cases e : j = i
    · subst e
      have : ¬ j < σ.length := fun z => c ⟨h, z⟩
      rw [List.getElem?_eq_none (by rw [List.length_set]; omega), List.getElem?_eq_none (by omega)]
    · rw [List.getElem?_set_ne e]
theorem wipe_wipe {σ : L2.St} {vs : List Nat} : wipe (wipe σ vs) vs = wipe σ vs := by
  apply List.ext_getElem?
  intro i
  rw [wipe_get, wipe_length]
  by_cases c : i ∈ vs ∧ i < σ.length
  · rw [if_pos c, wipe_get, if_pos c]
  · rw [if_neg c]

/-! ### judgements -/
def EN (W : Wld T) (te : TE) (env : Env') (c k : Nat) (P : D → Prop) : Prop := ∀ G0 H0 σ G H, At W G0 H0 c G H σ env → ∀ Q : VK,
  (∀ v d G2 H2, Stp W G H G2 H2 → GOk W G2 H2 → W.J (c + k) H2 → Rp G2 v d → P d → Q v H2) → te σ H Q
def Kt (W : Wld T) (c : Nat) (G H : Hp) (d : D) (Q : VK) : Prop := ∀ v G2 H2, Stp W G H G2 H2 → GOk W G2 H2 → W.J c H2 → Rp G2 v d → Q v H2
def ED (W : Wld T) (te : TE) (env : Env') (d : D) : Prop := ∀ c G0 H0 σ G H, At W G0 H0 c G H σ env → ∀ Q : VK, Kt W c G H d Q → te σ H Q
def ET (W : Wld T) (tt : TT) (env : Env') (b : Bool) : Prop := ∀ c G0 H0 σ G H, At W G0 H0 c G H σ env → ∀ Q : Bool → Hp → Prop,
  (∀ G2 H2, Stp W G H G2 H2 → GOk W G2 H2 → W.J c H2 → Q b H2) → tt σ H Q
def ETN (W : Wld T) (tt : TT) (env : Env') (c k : Nat) (P : Bool → Prop) : Prop := ∀ G0 H0 σ G H, At W G0 H0 c G H σ env → ∀ Q : Bool → Hp → Prop,
  (∀ b G2 H2, Stp W G H G2 H2 → GOk W G2 H2 → W.J (c + k) H2 → P b → Q b H2) → tt σ H Q
def EA (W : Wld T) (ta : TA) (env : Env') (ds : List D) : Prop := ∀ c G0 H0 σ G H, At W G0 H0 c G H σ env → ∀ Q : List V → Hp → Prop,
  (∀ vs G2 H2, Stp W G H G2 H2 → GOk W G2 H2 → W.J c H2 → RpL G2 vs ds → Q vs H2) → ta σ H Q
def EAN (W : Wld T) (ta : TA) (env : Env') (c k : Nat) (P : List D → Prop) : Prop := ∀ G0 H0 σ G H, At W G0 H0 c G H σ env → ∀ Q : List V → Hp → Prop,
  (∀ vs ds G2 H2, Stp W G H G2 H2 → GOk W G2 H2 → W.J (c + k) H2 → RpL G2 vs ds → P ds → Q vs H2) → ta σ H Q
theorem ED.n {te : TE} {env : Env'} {d : D} (h : ED W te env d) : EN W te env c 0 (fun x => x = d) := fun G0 H0 σ G H A Q q => h c G0 H0 σ G H A Q fun v G2 H2 s g j r => q v d G2 H2 s g j r rfl
theorem ET.n {te : TT} {env : Env'} {b : Bool} (h : ET W te env b) : ETN W te env c 0 (fun x => x = b) := fun G0 H0 σ G H A Q q => h c G0 H0 σ G H A Q fun G2 H2 s g j => q b G2 H2 s g j rfl
theorem EA.n {ta : TA} {env : Env'} {ds : List D} (h : EA W ta env ds) : EAN W ta env c 0 (fun x => x = ds) := fun G0 H0 σ G H A Q q => h c G0 H0 σ G H A Q fun v G2 H2 s g j r => q v ds G2 H2 s g j r rfl
theorem EN.imp {te : TE} {env : Env'} {P P' : D → Prop} {k' : Nat} (h : EN W te env c k P) (hk : k ≤ k') (hp : ∀ d, P d → P' d) : EN W te env c k' P' := fun G0 H0 σ G H A Q q =>
  h G0 H0 σ G H A Q fun v d G2 H2 s g j r p => q v d G2 H2 s g (W.mono (Nat.add_le_add_left hk c) j) r (hp d p)
theorem EN.det {te : TE} {env : Env'} {d : D} (h : ∀ c, EN W te env c 0 (fun x => x = d)) : ED W te env d := fun c G0 H0 σ G H A Q q => h c G0 H0 σ G H A Q fun v d' G2 H2 s g j r e => by
  subst e
  exact q v G2 H2 s g j r
theorem ED.eq {te : TE} {env : Env'} {d d' : D} (h : ED W te env d) (e : d = d') : ED W te env d' := e ▸ h
theorem ET.eq {te : TT} {env : Env'} {b b' : Bool} (h : ET W te env b) (e : b = b') : ET W te env b' := e ▸ h

/-! ### names, constants -/
theorem ed_var {env : Env'} {d : D} {i : Nat} (h : env[i]? = some (.dat d)) : ED W (tVar i) env d := fun c G0 H0 σ G H A Q q => by
  obtain ⟨v, e, r⟩ := A.env.dat i d h
  exact ⟨v, e, q v G H Stp.refl A.gok A.j r⟩
theorem ed_c {env : Env'} {v : V} {d : D} (h : ∀ G, Rp G v d) : ED W (tC v) env d := fun c G0 H0 σ G H A Q q => q v G H Stp.refl A.gok A.j (h G)
theorem ed_int {env : Env'} {i : Int} : ED W (tC (.int i)) env (.int i) := ed_c fun _ => .int i
theorem ed_bl {env : Env'} {b : Bool} : ED W (tC (.bl b)) env (.bl b) := ed_c fun _ => .bl b
theorem ed_non {env : Env'} : ED W (tC .non) env .non := ed_c fun _ => .non
theorem ed_str {env : Env'} {s : Str} : ED W (tC (.str s)) env (.str s) := ed_c fun _ => .str s
theorem ed_raw {env : Env'} {v : V} : ED W (tC v) env (.raw v) := ed_c fun _ => .raw v

/-! ### argument lists, displays -/
theorem ea_nil {env : Env'} : EA W tNil env [] := fun c G0 H0 σ G H A Q q => q [] G H Stp.refl A.gok A.j .nil
theorem ea_cons {env : Env'} {te : TE} {ta : TA} {d : D} {ds : List D} (h : ED W te env d) (hr : EA W ta env ds) : EA W (tCons te ta) env (d :: ds) := fun c G0 H0 σ G H A Q q =>
  h c G0 H0 σ G H A _ fun v G1 H1 s1 g1 j1 r1 => hr c G0 H0 σ G1 H1 (A.step s1 g1 j1) _ fun vs G2 H2 s2 g2 j2 r2 => q (v :: vs) G2 H2 (s1.trans s2) g2 j2 (.cons (r1.mono s2.gg) r2)
theorem ean_nil {env : Env'} : EAN W tNil env c 0 (fun ds => ds = []) := ea_nil.n
theorem ean_cons {env : Env'} {te : TE} {ta : TA} {P : D → Prop} {R : List D → Prop} {k2 : Nat} (h : EN W te env c k P) (hr : EAN W ta env (c + k) k2 R) : EAN W (tCons te ta) env c (k + k2) (fun l => ∃ d ds, l = d :: ds ∧ P d ∧ R ds) := fun G0 H0 σ G H A Q q =>
  h G0 H0 σ G H A _ fun v d G1 H1 s1 g1 j1 r1 p1 => hr G0 H0 σ G1 H1 (A.step s1 g1 j1) _ fun vs ds G2 H2 s2 g2 j2 r2 p2 => q (v :: vs) (d :: ds) G2 H2 (s1.trans s2) g2 (by rw [← Nat.add_assoc]; exact j2) (.cons (r1.mono s2.gg) r2) ⟨d, ds, rfl, p1, p2⟩
theorem sqT_of {K : PySem.W.Frag} {a : Addr} {xs : List V} (g : GOk W G H) (h : G a = some (.tup xs)) : SqT K H a xs := SqT.of (g.same _ _ h)
theorem sqL_of {K : PySem.W.Frag} {a : Addr} {xs : List V} (g : GOk W G H) (h : G a = some (.lst xs)) : SqL K H a xs := SqL.of (g.same _ _ h)
theorem ea_starT {K : PySem.W.Frag} {env : Env'} {te : TE} {ta : TA} {es ds : List D} (h : ED W te env (.tup es)) (hr : EA W ta env ds) : EA W (StX.tStar K te ta) env (es ++ ds) := fun c G0 H0 σ G H A Q q =>
  h c G0 H0 σ G H A _ fun v G1 H1 s1 g1 j1 r1 => by
    cases r1 with
    | tup ha ra =>
      refine ⟨_, _, rfl, .inl (sqT_of g1 ha), ?_⟩
      exact hr c G0 H0 σ G1 H1 (A.step s1 g1 j1) _ fun vs G2 H2 s2 g2 j2 r2 => q _ G2 H2 (s1.trans s2) g2 j2 ((ra.mono s2.gg).app r2)
theorem ed_tup {env : Env'} {ta : TA} {ds : List D} (h : EA W ta env ds) (hz : ds.length ≤ 100000) : ED W (tTup ta) env (.tup ds) := fun c G0 H0 σ G H A Q q =>
  h c G0 H0 σ G H A _ fun vs G1 H1 s1 g1 j1 r1 => ⟨by rw [r1.len]; exact Nat.le_trans hz (by decide), fun p hp =>
    q (.ref p) _ _ (s1.trans (stp_new g1 hp)) (gok_new g1 j1 hp (noTb_tup _)) (J_new j1 hp) (.tup upd_same (r1.mono (same_new (g1.none hp) _)))⟩
theorem ed_lst {env : Env'} {ta : TA} {ds : List D} (h : EA W ta env ds) (hz : ds.length ≤ 100000) : ED W (tLst ta) env (.lst ds) := fun c G0 H0 σ G H A Q q =>
  h c G0 H0 σ G H A _ fun vs G1 H1 s1 g1 j1 r1 => ⟨by rw [r1.len]; exact Nat.le_trans hz (by decide), fun p hp =>
    q (.ref p) _ _ (s1.trans (stp_new g1 hp)) (gok_new g1 j1 hp (noTb_lst _)) (J_new j1 hp) (.lst upd_same (r1.mono (same_new (g1.none hp) _)))⟩
theorem en_tup {env : Env'} {ta : TA} {P : List D → Prop} (h : EAN W ta env c k P) (hz : ∀ ds, P ds → ds.length ≤ 100000) : EN W (tTup ta) env c k (fun d => ∃ ds, d = .tup ds ∧ P ds) := fun G0 H0 σ G H A Q q =>
  h G0 H0 σ G H A _ fun vs ds G1 H1 s1 g1 j1 r1 p1 => ⟨by rw [r1.len]; exact Nat.le_trans (hz ds p1) (by decide), fun p hp =>
    q (.ref p) _ _ _ (s1.trans (stp_new g1 hp)) (gok_new g1 j1 hp (noTb_tup _)) (J_new j1 hp) (.tup upd_same (r1.mono (same_new (g1.none hp) _))) ⟨ds, rfl, p1⟩⟩
theorem en_lst {env : Env'} {ta : TA} {P : List D → Prop} (h : EAN W ta env c k P) (hz : ∀ ds, P ds → ds.length ≤ 100000) : EN W (tLst ta) env c k (fun d => ∃ ds, d = .lst ds ∧ P ds) := fun G0 H0 σ G H A Q q =>
  h G0 H0 σ G H A _ fun vs ds G1 H1 s1 g1 j1 r1 p1 => ⟨by rw [r1.len]; exact Nat.le_trans (hz ds p1) (by decide), fun p hp =>
    q (.ref p) _ _ _ (s1.trans (stp_new g1 hp)) (gok_new g1 j1 hp (noTb_lst _)) (J_new j1 hp) (.lst upd_same (r1.mono (same_new (g1.none hp) _))) ⟨ds, rfl, p1⟩⟩

/-! ### operators by values -/
def RD2 (W : Wld T) (r : R2) (d1 d2 d : D) : Prop := ∀ c G H v1 v2, GOk W G H → W.J c H → Rp G v1 d1 → Rp G v2 d2 → ∀ Q : VK, Kt W c G H d Q → r v1 v2 H Q
def RD1 (W : Wld T) (r : V → Hp → VK → Prop) (d1 d : D) : Prop := ∀ c G H v1, GOk W G H → W.J c H → Rp G v1 d1 → ∀ Q : VK, Kt W c G H d Q → r v1 H Q
def RDL (W : Wld T) (r : List V → Hp → VK → Prop) (ds : List D) (d : D) : Prop := ∀ c G H vs, GOk W G H → W.J c H → RpL G vs ds → ∀ Q : VK, Kt W c G H d Q → r vs H Q
theorem Kt.here {Q : VK} {v : V} {d : D} (q : Kt W c G H d Q) (g : GOk W G H) (j : W.J c H) (r : Rp G v d) : Q v H := q v G H Stp.refl g j r
theorem Kt.new {Q : VK} {d : D} {o : HO} {p : Addr} (q : Kt W c G H d Q) (g : GOk W G H) (j : W.J c H) (hp : H p = none) (n : NoTb o) (r : Rp (upd G p o) (.ref p) d) : Q (.ref p) (upd H p o) :=
  q (.ref p) _ _ (stp_new g hp) (gok_new g j hp n) (J_new j hp) r
theorem Kt.newT {Q : VK} {ds : List D} {xs : List V} {p : Addr} (q : Kt W c G H (.tup ds) Q) (g : GOk W G H) (j : W.J c H) (hp : H p = none) (r : RpL G xs ds) : Q (.ref p) (upd H p (.tup xs)) :=
  q.new g j hp (noTb_tup _) (.tup upd_same (r.mono (same_new (g.none hp) _)))
theorem Kt.newL {Q : VK} {ds : List D} {xs : List V} {p : Addr} (q : Kt W c G H (.lst ds) Q) (g : GOk W G H) (j : W.J c H) (hp : H p = none) (r : RpL G xs ds) : Q (.ref p) (upd H p (.lst xs)) :=
  q.new g j hp (noTb_lst _) (.lst upd_same (r.mono (same_new (g.none hp) _)))
theorem ed_op {env : Env'} {ta tb : TE} {r : R2} {d1 d2 d : D} (ha : ED W ta env d1) (hb : ED W tb env d2) (hr : RD2 W r d1 d2 d) : ED W (tOp r ta tb) env d := fun c G0 H0 σ G H A Q q =>
  ha c G0 H0 σ G H A _ fun v1 G1 H1 s1 g1 j1 r1 => hb c G0 H0 σ G1 H1 (A.step s1 g1 j1) _ fun v2 G2 H2 s2 g2 j2 r2 =>
    hr c G2 H2 v1 v2 g2 j2 (r1.mono s2.gg) r2 Q fun v G3 H3 s3 g3 j3 r3 => q v G3 H3 ((s1.trans s2).trans s3) g3 j3 r3
theorem en_op {env : Env'} {ta tb : TE} {r : R2} {P1 P2 P : D → Prop} {k1 k2 : Nat} (ha : EN W ta env c k1 P1) (hb : EN W tb env (c + k1) k2 P2) (hr : ∀ d1 d2, P1 d1 → P2 d2 → ∃ d, RD2 W r d1 d2 d ∧ P d) : EN W (tOp r ta tb) env c (k1 + k2) P := fun G0 H0 σ G H A Q q =>
  ha G0 H0 σ G H A _ fun v1 d1 G1 H1 s1 g1 j1 r1 p1 => hb G0 H0 σ G1 H1 (A.step s1 g1 j1) _ fun v2 d2 G2 H2 s2 g2 j2 r2 p2 => by
    obtain ⟨d, hd, pd⟩ := hr d1 d2 p1 p2
    exact hd (c + k1 + k2) G2 H2 v1 v2 g2 j2 (r1.mono s2.gg) r2 Q fun v G3 H3 s3 g3 j3 r3 => q v d G3 H3 ((s1.trans s2).trans s3) g3 (by rw [← Nat.add_assoc]; exact j3) r3 pd
theorem ed_un {env : Env'} {ta : TE} {r : V → Hp → VK → Prop} {d1 d : D} (ha : ED W ta env d1) (hr : RD1 W r d1 d) : ED W (tUn r ta) env d := fun c G0 H0 σ G H A Q q =>
  ha c G0 H0 σ G H A _ fun v1 G1 H1 s1 g1 j1 r1 => hr c G1 H1 v1 g1 j1 r1 Q fun v G3 H3 s3 g3 j3 r3 => q v G3 H3 (s1.trans s3) g3 j3 r3
theorem ed_CB {env : Env'} {ta : TA} {r : List V → Hp → VK → Prop} {ds : List D} {d : D} (ha : EA W ta env ds) (hr : RDL W r ds d) : ED W (tCB r ta) env d := fun c G0 H0 σ G H A Q q =>
  ha c G0 H0 σ G H A _ fun vs G1 H1 s1 g1 j1 r1 => hr c G1 H1 vs g1 j1 r1 Q fun v G3 H3 s3 g3 j3 r3 => q v G3 H3 (s1.trans s3) g3 j3 r3
theorem en_CB {env : Env'} {ta : TA} {r : List V → Hp → VK → Prop} {P : List D → Prop} {P' : D → Prop} (ha : EAN W ta env c k P) (hr : ∀ ds, P ds → ∃ d, RDL W r ds d ∧ P' d) : EN W (tCB r ta) env c k P' := fun G0 H0 σ G H A Q q =>
  ha G0 H0 σ G H A _ fun vs ds G1 H1 s1 g1 j1 r1 p1 => by
    obtain ⟨d, hd, pd⟩ := hr ds p1
    exact hd (c + k) G1 H1 vs g1 j1 r1 Q fun v G3 H3 s3 g3 j3 r3 => q v d G3 H3 (s1.trans s3) g3 j3 r3 pd
theorem rd_I0 {g : Int → Int → V} {i j : Int} {d : D} (h : ∀ G, Rp G (g i j) d) : RD2 W (rI0 g) (.int i) (.int j) d := fun c G H v1 v2 gk jk r1 r2 Q q => by
  cases r1; cases r2
  exact ⟨i, j, rfl, rfl, q.here gk jk (h G)⟩
theorem rd_I {C : Int → Int → Prop} {g : Int → Int → V} {i j : Int} {d : D} (hc : C i j) (h : ∀ G, Rp G (g i j) d) : RD2 W (rI C g) (.int i) (.int j) d := fun c G H v1 v2 gk jk r1 r2 Q q => by
  cases r1; cases r2
  exact ⟨i, j, rfl, rfl, hc, q.here gk jk (h G)⟩
theorem rd_inl {r r' : R2} {d1 d2 d : D} (h : RD2 W r d1 d2 d) : RD2 W (fun x y H Q => r x y H Q ∨ r' x y H Q) d1 d2 d := fun c G H v1 v2 gk jk r1 r2 Q q => .inl (h c G H v1 v2 gk jk r1 r2 Q q)
theorem rd_inr {r r' : R2} {d1 d2 d : D} (h : RD2 W r' d1 d2 d) : RD2 W (fun x y H Q => r x y H Q ∨ r' x y H Q) d1 d2 d := fun c G H v1 v2 gk jk r1 r2 Q q => .inr (h c G H v1 v2 gk jk r1 r2 Q q)
theorem rdl_inl {r r' : List V → Hp → VK → Prop} {ds : List D} {d : D} (h : RDL W r ds d) : RDL W (fun xs H Q => r xs H Q ∨ r' xs H Q) ds d := fun c G H vs gk jk r1 Q q => .inl (h c G H vs gk jk r1 Q q)
theorem rdl_inr {r r' : List V → Hp → VK → Prop} {ds : List D} {d : D} (h : RDL W r' ds d) : RDL W (fun xs H Q => r xs H Q ∨ r' xs H Q) ds d := fun c G H vs gk jk r1 Q q => .inr (h c G H vs gk jk r1 Q q)

/-! ### tests -/
theorem et_test {env : Env'} {te : TE} {b : Bool} (h : ED W te env (.bl b)) : ET W (tTest te) env b := fun c G0 H0 σ G H A Q q =>
  h c G0 H0 σ G H A _ fun v G1 H1 s g j r => by
    cases r
    exact ⟨b, rfl, q G1 H1 s g j⟩
theorem et_B {env : Env'} {te : TE} {b : Bool} (h : ED W te env (.bl b)) : ET W (tB te) env b := et_test h
theorem etn_test {env : Env'} {te : TE} {P : Bool → Prop} (h : EN W te env c k (fun d => ∃ b, d = .bl b ∧ P b)) : ETN W (tTest te) env c k P := fun G0 H0 σ G H A Q q =>
  h G0 H0 σ G H A _ fun v d G1 H1 s g j r p => by
    obtain ⟨b, rfl, pb⟩ := p
    cases r
    exact ⟨b, rfl, q b G1 H1 s g j pb⟩
theorem et_and {env : Env'} {t u : TT} {a b : Bool} (h1 : ET W t env a) (h2 : a = true → ET W u env b) : ET W (tAnd t u) env (a && b) := fun c G0 H0 σ G H A Q q =>
  h1 c G0 H0 σ G H A _ fun G1 H1 s1 g1 j1 => by
    cases a with
    | true => exact h2 rfl c G0 H0 σ G1 H1 (A.step s1 g1 j1) Q fun G2 H2 s2 g2 j2 => q G2 H2 (s1.trans s2) g2 j2
    | false => exact q G1 H1 s1 g1 j1
theorem et_or {env : Env'} {t u : TT} {a b : Bool} (h1 : ET W t env a) (h2 : a = false → ET W u env b) : ET W (tOr t u) env (a || b) := fun c G0 H0 σ G H A Q q =>
  h1 c G0 H0 σ G H A _ fun G1 H1 s1 g1 j1 => by
    cases a with
    | true => exact q G1 H1 s1 g1 j1
    | false => exact h2 rfl c G0 H0 σ G1 H1 (A.step s1 g1 j1) Q fun G2 H2 s2 g2 j2 => q G2 H2 (s1.trans s2) g2 j2
theorem et_not {env : Env'} {t : TT} {a : Bool} (h : ET W t env a) : ET W (tNot t) env (!a) := fun c G0 H0 σ G H A Q q => h c G0 H0 σ G H A _ q
theorem ed_andV {env : Env'} {ta tb : TE} {a b : Bool} (h1 : ED W ta env (.bl a)) (h2 : a = true → ED W tb env (.bl b)) : ED W (tAndV ta tb) env (.bl (a && b)) := fun c G0 H0 σ G H A Q q =>
  h1 c G0 H0 σ G H A _ fun v G1 H1 s1 g1 j1 r1 => by
    cases r1
    refine ⟨a, rfl, ?_⟩
    cases a with
    | true => exact h2 rfl c G0 H0 σ G1 H1 (A.step s1 g1 j1) Q fun v G2 H2 s2 g2 j2 r2 => q v G2 H2 (s1.trans s2) g2 j2 r2
    | false => exact q _ G1 H1 s1 g1 j1 (.bl _)
theorem ed_orV {env : Env'} {ta tb : TE} {a b : Bool} (h1 : ED W ta env (.bl a)) (h2 : a = false → ED W tb env (.bl b)) : ED W (tOrV ta tb) env (.bl (a || b)) := fun c G0 H0 σ G H A Q q =>
  h1 c G0 H0 σ G H A _ fun v G1 H1 s1 g1 j1 r1 => by
    cases r1
    refine ⟨a, rfl, ?_⟩
    cases a with
    | true => exact q _ G1 H1 s1 g1 j1 (.bl _)
    | false => exact h2 rfl c G0 H0 σ G1 H1 (A.step s1 g1 j1) Q fun v G2 H2 s2 g2 j2 r2 => q v G2 H2 (s1.trans s2) g2 j2 r2
theorem ed_notV {env : Env'} {ta : TE} {a : Bool} (h : ED W ta env (.bl a)) : ED W (tNotV ta) env (.bl (!a)) := fun c G0 H0 σ G H A Q q =>
  h c G0 H0 σ G H A _ fun v G1 H1 s1 g1 j1 r1 => by
    cases r1
    exact ⟨a, rfl, q _ G1 H1 s1 g1 j1 (.bl _)⟩
theorem ed_if {env : Env'} {t : TT} {ta tb : TE} {b : Bool} {d : D} (h : ET W t env b) (h1 : b = true → ED W ta env d) (h2 : b = false → ED W tb env d) : ED W (tIf t ta tb) env d := fun c G0 H0 σ G H A Q q =>
  h c G0 H0 σ G H A _ fun G1 H1 s1 g1 j1 => by
    cases b with
    | true => exact h1 rfl c G0 H0 σ G1 H1 (A.step s1 g1 j1) Q fun v G2 H2 s2 g2 j2 r2 => q v G2 H2 (s1.trans s2) g2 j2 r2
    | false => exact h2 rfl c G0 H0 σ G1 H1 (A.step s1 g1 j1) Q fun v G2 H2 s2 g2 j2 r2 => q v G2 H2 (s1.trans s2) g2 j2 r2

/-! ### what is walked -/
structure Its (W : Wld T) (J : It) (G1 : Hp) (items : List D) : Prop where
  go : ∀ (i : Nat) G2 H2, GOk W G2 H2 → Same G1 G2 → (∃ c, W.J c H2) → i < items.length → J.go i H2
  stop : ∀ (i : Nat) G2 H2, GOk W G2 H2 → Same G1 G2 → (∃ c, W.J c H2) → items.length ≤ i → J.stop i H2
  yld : ∀ (i : Nat) (d : D) c G2 H2 x H', GOk W G2 H2 → Same G1 G2 → W.J c H2 → items[i]? = some d → J.yld i H2 x H' → ∃ G', Stp W G2 H2 G' H' ∧ GOk W G' H' ∧ W.J c H' ∧ Rp G' x d
def Src (W : Wld T) (wi : TI) (env : Env') (items : List D) : Prop := ∀ c G0 H0 σ G H, At W G0 H0 c G H σ env → ∀ R : It → Hp → Prop,
  (∀ J G1 H1, Stp W G H G1 H1 → GOk W G1 H1 → W.J c H1 → Its W J G1 items → R J H1) → wi σ H R
def SrcN (W : Wld T) (wi : TI) (env : Env') (c k : Nat) (P : List D → Prop) : Prop := ∀ G0 H0 σ G H, At W G0 H0 c G H σ env → ∀ R : It → Hp → Prop,
  (∀ J G1 H1 items, Stp W G H G1 H1 → GOk W G1 H1 → W.J (c + k) H1 → P items → Its W J G1 items → R J H1) → wi σ H R
theorem Src.n {wi : TI} {env : Env'} {items : List D} (h : Src W wi env items) : SrcN W wi env c 0 (fun l => l = items) := fun G0 H0 σ G H A R q => h c G0 H0 σ G H A R fun J G1 H1 s g j i => q J G1 H1 items s g j rfl i
theorem its_list {K : PySem.W.Frag} {a : Addr} {xs : List V} {ds : List D} (h : G a = some (.lst xs)) (r : RpL G xs ds)
    : Its W (Itl K a) G ds := by
  refine ⟨fun i G2 H2 g e _ hi => ?_, fun i G2 H2 g e _ hi => ?_, fun i d c G2 H2 x H' g e j hd y => ?_⟩
  · have hi' : i < xs.length := by rw [r.len]; exact hi
    exact ⟨xs, xs[i], sqL_of g (e _ _ h), by simp [hi']⟩
  · exact ⟨xs, sqL_of g (e _ _ h), by rw [r.len]; exact hi⟩
  · obtain ⟨rfl, hy⟩ := y
    obtain ⟨v, e1, r1⟩ := r.get hd
    have := hy xs (sqL_of g (e _ _ h))
    rw [e1] at this
    cases this
    exact ⟨G2, Stp.refl, g, j, r1.mono e⟩
end
end Fx

set_option Elab.async false
set_option linter.all false
set_option maxRecDepth 100000
set_option maxHeartbeats 4000000
/-! Sources of loops, comprehensions, statements. -/
namespace Fx
open PySem PySem.Spec PyProof.Rows L2
section
variable {T : List (Addr × Str)} {W : Wld T} {G H G1 H1 G2 H2 H0 : Hp} {G0 : Hp × Hp} {c c' k : Nat} {K : PySem.W.Frag}
/-! ### sources -/
theorem its_tup {a : Addr} {xs : List V} {ds : List D} (h : G a = some (.tup xs)) (r : RpL G xs ds) : Its W (Itt K a) G ds := by
  refine ⟨fun i G2 H2 g e _ hi => ?_, fun i G2 H2 g e _ hi => ?_, fun i d c G2 H2 x H' g e j hd y => ?_⟩
  · have hi' : i < xs.length := by rw [r.len]; exact hi
    exact ⟨xs, xs[i], sqT_of g (e _ _ h), by simp [hi']⟩
  · exact ⟨xs, sqT_of g (e _ _ h), by rw [r.len]; exact hi⟩
  · obtain ⟨rfl, hy⟩ := y
    obtain ⟨v, e1, r1⟩ := r.get hd
    have := hy xs (sqT_of g (e _ _ h))
    rw [e1] at this
    cases this
    exact ⟨G2, Stp.refl, g, j, r1.mono e⟩
theorem its_range {lo : Int} {n : Nat} : Its W (Itr lo n) G ((List.range n).map fun (i : Nat) => .int (lo + i)) := by
  refine ⟨fun i G2 H2 g e _ hi => ?_, fun i G2 H2 g e _ hi => ?_, fun i d c G2 H2 x H' g e j hd y => ?_⟩
  · show i < n
    simpa using hi
  · show n ≤ i
    simpa using hi
  · obtain ⟨rfl, rfl⟩ := y
    rw [List.getElem?_map] at hd
    by_cases hi : i < n
    · rw [List.getElem?_range hi] at hd
      cases hd
      exact ⟨G2, Stp.refl, g, j, .int _⟩
    · rw [List.getElem?_eq_none (by simpa using hi)] at hd; cases hd
theorem its_enum {a : Addr} {xs : List V} {ds : List D} (h : G a = some (.lst xs)) (r : RpL G xs ds) : Its W (Ite K a) G (ds.zipIdx.map fun p => .tup [.int (p.2 : Nat), p.1]) := by
  refine ⟨fun i G2 H2 g e _ hi => ?_, fun i G2 H2 g e _ hi => ?_, fun i d c G2 H2 x H' g e j hd y => ?_⟩
  · have hi' : i < xs.length := by rw [r.len]; simpa using hi
    exact ⟨xs, xs[i], sqL_of g (e _ _ h), by simp [hi']⟩
  · exact ⟨xs, sqL_of g (e _ _ h), by rw [r.len]; simpa using hi⟩
  · obtain ⟨t, z, rfl, nt, rfl, hy⟩ := y
    rw [List.getElem?_map, List.getElem?_zipIdx] at hd
    cases hq : ds[i]? with
    | none => rw [hq] at hd; cases hd
    | some d0 =>
      rw [hq] at hd
      cases hd
      obtain ⟨v, e1, r1⟩ := r.get hq
      have := hy xs (sqL_of g (e _ _ h))
      rw [e1] at this
      cases this
      refine ⟨upd G2 t _, stp_new g nt, gok_new g j nt (noTb_tup _), J_new j nt, .tup upd_same ?_⟩
      have e2 : ((0 + i : Nat) : Int) = (i : Int) := by omega
      show RpL _ [V.int (i : Nat), z] [D.int ((0 + i : Nat) : Int), d0]
      rw [e2]
      exact .cons (.int _) (.cons ((r1.mono e).mono (same_new (g.none nt) _)) .nil)
theorem its_zipL {a b : Addr} {xs ys : List V} {ds es : List D} (h : G a = some (.lst xs)) (r : RpL G xs ds) (h' : G b = some (.lst ys)) (r' : RpL G ys es) : Its W (Itz K a b) G (List.zipWith (fun x y => .tup [x, y]) ds es) := by
  refine ⟨fun i G2 H2 g e _ hi => ?_, fun i G2 H2 g e _ hi => ?_, fun i d c G2 H2 x H' g e j hd y => ?_⟩
  · rw [List.length_zipWith] at hi
    have h1 : i < xs.length := by rw [r.len]; omega
    have h2 : i < ys.length := by rw [r'.len]; omega
    exact ⟨xs, ys, xs[i], ys[i], sqL_of g (e _ _ h), sqL_of g (e _ _ h'), by simp [h1], by simp [h2]⟩
  · rw [List.length_zipWith] at hi
    exact ⟨xs, ys, sqL_of g (e _ _ h), sqL_of g (e _ _ h'), by rw [r.len, r'.len]; omega⟩
  · obtain ⟨t, z, z', rfl, nt, rfl, hy, hy'⟩ := y
    rw [List.getElem?_zipWith] at hd
    cases hq : ds[i]? with
    | none => rw [hq] at hd; cases hd
    | some d0 =>
      cases hq' : es[i]? with
      | none => rw [hq, hq'] at hd; cases hd
      | some e0 =>
        rw [hq, hq'] at hd
        cases hd
        obtain ⟨v, e1, r1⟩ := r.get hq
        obtain ⟨v', e1', r1'⟩ := r'.get hq'
        have t1 := hy xs (sqL_of g (e _ _ h))
        have t2 := hy' ys (sqL_of g (e _ _ h'))
        rw [e1] at t1
        rw [e1'] at t2
        cases t1
        cases t2
        refine ⟨upd G2 t _, stp_new g nt, gok_new g j nt (noTb_tup _), J_new j nt, .tup upd_same ?_⟩
        have sn := same_new (g.none nt) (HO.tup [z, z'])
        exact .cons ((r1.mono e).mono sn) (.cons ((r1'.mono e).mono sn) .nil)
theorem its_zipT {a b : Addr} {xs ys : List V} {ds es : List D} (h : G a = some (.tup xs)) (r : RpL G xs ds) (h' : G b = some (.tup ys)) (r' : RpL G ys es) : Its W (RZ.ItzT K a b) G (List.zipWith (fun x y => .tup [x, y]) ds es) := by
  refine ⟨fun i G2 H2 g e _ hi => ?_, fun i G2 H2 g e _ hi => ?_, fun i d c G2 H2 x H' g e j hd y => ?_⟩
  · rw [List.length_zipWith] at hi
    have h1 : i < xs.length := by rw [r.len]; omega
    have h2 : i < ys.length := by rw [r'.len]; omega
    exact ⟨xs, ys, xs[i], ys[i], sqT_of g (e _ _ h), sqT_of g (e _ _ h'), by simp [h1], by simp [h2]⟩
  · rw [List.length_zipWith] at hi
    exact ⟨xs, ys, sqT_of g (e _ _ h), sqT_of g (e _ _ h'), by rw [r.len, r'.len]; omega⟩
  · obtain ⟨t, z, z', rfl, nt, rfl, hy, hy'⟩ := y
    rw [List.getElem?_zipWith] at hd
    cases hq : ds[i]? with
    | none => rw [hq] at hd; cases hd
    | some d0 =>
      cases hq' : es[i]? with
      | none => rw [hq, hq'] at hd; cases hd
      | some e0 =>
        rw [hq, hq'] at hd
        cases hd
        obtain ⟨v, e1, r1⟩ := r.get hq
        obtain ⟨v', e1', r1'⟩ := r'.get hq'
        have t1 := hy xs (sqT_of g (e _ _ h))
        have t2 := hy' ys (sqT_of g (e _ _ h'))
        rw [e1] at t1
        rw [e1'] at t2
        cases t1
        cases t2
        refine ⟨upd G2 t _, stp_new g nt, gok_new g j nt (noTb_tup _), J_new j nt, .tup upd_same ?_⟩
        have sn := same_new (g.none nt) (HO.tup [z, z'])
        exact .cons ((r1.mono e).mono sn) (.cons ((r1'.mono e).mono sn) .nil)
theorem src_list {tl : TE} {env : Env'} {ds : List D} (h : ED W tl env (.lst ds)) : Src W (iList K tl) env ds := fun c G0 H0 σ G H A R q =>
  h c G0 H0 σ G H A _ fun v G1 H1 s1 g1 j1 r1 => by
    cases r1 with
    | lst ha ra => exact ⟨_, rfl, ⟨_, sqL_of g1 ha⟩, q _ G1 H1 s1 g1 j1 (its_list ha ra)⟩
theorem src_tup {tl : TE} {env : Env'} {ds : List D} (h : ED W tl env (.tup ds)) : Src W (iTup K tl) env ds := fun c G0 H0 σ G H A R q =>
  h c G0 H0 σ G H A _ fun v G1 H1 s1 g1 j1 r1 => by
    cases r1 with
    | tup ha ra => exact ⟨_, rfl, ⟨_, sqT_of g1 ha⟩, q _ G1 H1 s1 g1 j1 (its_tup ha ra)⟩
/-- a list or a tuple -/
def iSeq (K : PySem.W.Frag) (tl : TE) : TI := fun σ H R => iList K tl σ H R ∨ iTup K tl σ H R
theorem pi_seq {X : Cx} {tg l : Expr} {tl : TE} (hl : PE X l tl) : PI X tg l (iSeq X.K tl) := ⟨fun pins s σ H R I h => h.elim (fun h => (pi_list hl).run pins s σ H R I h) fun h => (pi_tup hl).run pins s σ H R I h⟩
theorem src_seqL {tl : TE} {env : Env'} {ds : List D} (h : ED W tl env (.lst ds)) : Src W (iSeq K tl) env ds := fun c G0 H0 σ G H A R q => .inl (src_list h c G0 H0 σ G H A R q)
theorem src_seqT {tl : TE} {env : Env'} {ds : List D} (h : ED W tl env (.tup ds)) : Src W (iSeq K tl) env ds := fun c G0 H0 σ G H A R q => .inr (src_tup h c G0 H0 σ G H A R q)
theorem src_range1 {ta : TA} {env : Env'} {n : Int} (h : EA W ta env [.int n]) (hn : -(2 ^ 62) ≤ n ∧ n < 2 ^ 62) : Src W (iRng1 ta) env ((List.range n.toNat).map fun (i : Nat) => .int i) := fun c G0 H0 σ G H A R q =>
  h c G0 H0 σ G H A _ fun v G1 H1 s1 g1 j1 r1 => by
    cases r1 with
    | cons h1 h2 =>
      cases h1
      cases h2
      refine ⟨n, rfl, hn.1, hn.2, q _ G1 H1 s1 g1 j1 ?_⟩
      have e := its_range (W := W) (G := G1) (lo := 0) (n := n.toNat)
      have e2 : (fun (i : Nat) => D.int ((0 : Int) + i)) = fun (i : Nat) => D.int i := by
        funext i
        rw [Int.zero_add]
      rw [e2] at e
      exact e
theorem src_range2 {ta : TA} {env : Env'} {m n : Int} (h : EA W ta env [.int m, .int n]) (hn : -(2 ^ 62) ≤ m ∧ m < 2 ^ 62 ∧ -(2 ^ 62) ≤ n ∧ n < 2 ^ 62) : Src W (iRng2 ta) env ((List.range (n - m).toNat).map fun (i : Nat) => .int (m + i)) := fun c G0 H0 σ G H A R q =>
  h c G0 H0 σ G H A _ fun v G1 H1 s1 g1 j1 r1 => by
    cases r1 with
    | cons h1 h2 =>
      cases h1
      cases h2 with
      | cons h1 h2 =>
        cases h1
        cases h2
        exact ⟨m, n, rfl, hn, q _ G1 H1 s1 g1 j1 its_range⟩
theorem srcN_range1 {ta : TA} {env : Env'} {P : Int → Prop} (h : EAN W ta env c k (fun ds => ∃ n, ds = [.int n] ∧ P n)) (hn : ∀ n, P n → -(2 ^ 62) ≤ n ∧ n < 2 ^ 62) : SrcN W (iRng1 ta) env c k (fun l => ∃ n : Int, P n ∧ l = (List.range n.toNat).map fun (i : Nat) => .int i) := fun G0 H0 σ G H A R q =>
  h G0 H0 σ G H A _ fun v ds G1 H1 s1 g1 j1 r1 p => by
    obtain ⟨n, rfl, pn⟩ := p
    cases r1 with
    | cons h1 h2 =>
      cases h1
      cases h2
      refine ⟨n, rfl, (hn n pn).1, (hn n pn).2, q _ G1 H1 _ s1 g1 j1 ⟨n, pn, rfl⟩ ?_⟩
      have e := its_range (W := W) (G := G1) (lo := 0) (n := n.toNat)
      have e2 : (fun (i : Nat) => D.int ((0 : Int) + i)) = fun (i : Nat) => D.int i := by
        funext i
        rw [Int.zero_add]
      rw [e2] at e
      exact e
theorem src_enum {ta : TA} {env : Env'} {ds : List D} (h : EA W ta env [.lst ds]) : Src W (iEnum K ta) env (ds.zipIdx.map fun p => .tup [.int (p.2 : Nat), p.1]) := fun c G0 H0 σ G H A R q =>
  h c G0 H0 σ G H A _ fun v G1 H1 s1 g1 j1 r1 => by
    cases r1 with
    | cons h1 h2 =>
      cases h2
      cases h1 with
      | lst ha ra => exact ⟨_, _, rfl, sqL_of g1 ha, q _ G1 H1 s1 g1 j1 (its_enum ha ra)⟩
theorem src_zipT {ta : TA} {env : Env'} {ds es : List D} (h : EA W ta env [.tup ds, .tup es]) : Src W (RZ.iZipA K ta) env (List.zipWith (fun x y => .tup [x, y]) ds es) := fun c G0 H0 σ G H A R q =>
  h c G0 H0 σ G H A _ fun v G1 H1 s1 g1 j1 r1 => by
    cases r1 with
    | cons h1 h2 =>
      cases h2 with
      | cons h2 h3 =>
        cases h3
        cases h1 with
        | tup ha ra =>
          cases h2 with
          | tup hb rb => exact ⟨_, _, _, _, rfl, .inr ⟨sqT_of g1 ha, sqT_of g1 hb, q _ G1 H1 s1 g1 j1 (its_zipT ha ra hb rb)⟩⟩
/-! ### targets -/
def TgOk (W : Wld T) (g : TG) (d : D) (env env' : Env') : Prop := ∀ c G0 H0 σ G H v, At W G0 H0 c G H σ env → Rp G v d → ∀ Q : L2.St → Hp → Prop, (∀ σ', At W G0 H0 c G H σ' env' → Q σ' H) → g v σ H Q
def TgC (W : Wld T) (g : TG) (vs : List Nat) (d : D) (env env' : Env') : Prop := ∀ c G0 H0 σ G H v, At W G0 H0 c G H σ env → Rp G v d → ∀ Q : L2.St → Hp → Prop, (∀ σ', wipe σ' vs = wipe σ vs → At W G0 H0 c G H σ' env' → Q σ' H) → g v σ H Q
theorem tg_name {d : D} {env : Env'} {j : Nat} : TgOk W (gName j) d env (env.set j (.dat d)) := fun c G0 H0 σ G H v A r Q q => q _ (A.setD j r)
theorem tgc_name {d : D} {env : Env'} {j : Nat} {vs : List Nat} (hj : j ∈ vs) : TgC W (gName j) vs d env (env.set j (.dat d)) := fun c G0 H0 σ G H v A r Q q => q _ (wipe_set hj) (A.setD j r)
theorem tg_tup2 {d1 d2 : D} {env : Env'} {i j : Nat} : TgOk W (gTup K 2 (gCons (gName i) (gCons (gName j) gNil))) (.tup [d1, d2]) env ((env.set i (.dat d1)).set j (.dat d2)) := fun c G0 H0 σ G H v A r Q q => by
  cases r with
  | tup ha ra =>
    cases ra with
    | cons r1 ra =>
      cases ra with
      | cons r2 ra =>
        cases ra
        exact ⟨_, _, rfl, sqT_of A.gok ha, rfl, _, _, rfl, _, _, rfl, rfl, q _ ((A.setD i r1).setD j r2)⟩
theorem tgc_tup2 {d1 d2 : D} {env : Env'} {i j : Nat} {vs : List Nat} (hi : i ∈ vs) (hj : j ∈ vs) : TgC W (gTup K 2 (gCons (gName i) (gCons (gName j) gNil))) vs (.tup [d1, d2]) env ((env.set i (.dat d1)).set j (.dat d2)) := fun c G0 H0 σ G H v A r Q q => by
  cases r with
  | tup ha ra =>
    cases ra with
    | cons r1 ra =>
      cases ra with
      | cons r2 ra =>
        cases ra
        exact ⟨_, _, rfl, sqT_of A.gok ha, rfl, _, _, rfl, _, _, rfl, rfl, q _ ((wipe_set hj).trans (wipe_set hi)) ((A.setD i r1).setD j r2)⟩

/-! ### what is written beside the still part -/
theorem stp_upd {l : Addr} {o : HO} (s : Stp W G H G1 H1) (h : Nf H l) (n : NoTb o) : Stp W G H G1 (upd H1 l o) := ⟨s.gg, fun a u e m k => by
    have ne : a ≠ l := by
      rintro rfl
      exact h u e k
    rw [upd_ne ne]
    exact s.hh a u e m k, s.fr, fun a e => by
    by_cases z : a = l
    · rw [z]; exact h
    · unfold Nf at e; rw [upd_ne z] at e; exact s.dom a e⟩
theorem gok_upd {l : Addr} {o : HO} (g : GOk W G H) (h : G l = none) : GOk W G (upd H l o) := fun a u e => by
  have n : a ≠ l := ne_of_none e h
  rw [upd_ne n]
  exact g a u e
/-- a finished list stands still from now on -/
theorem stp_frz {l : Addr} {o : HO} (s : Stp W G H G1 H1) (h : Nf H l) (g : G1 l = none) : Stp W G H (upd G1 l o) H1 := ⟨s.gg.trans (same_new g o), s.hh, fun a e => by
    by_cases z : a = l
    · rw [z]; exact .inr h
    · rw [upd_ne z] at e; exact s.fr a e, s.dom⟩
theorem gok_frz {l : Addr} {o : HO} (g : GOk W G H) (h : H l = some o) (n : NoTb o) (m : ¬ W.M l) : GOk W (upd G l o) H := fun a u e => by
  by_cases z : a = l
  · subst z
    rw [upd_same] at e
    cases e
    exact ⟨h, n, m⟩
  · rw [upd_ne z] at e
    exact g a u e
theorem Stp.gone {l : Addr} {o : HO} (s : Stp W G H G1 H1) (g : G l = none) (h : H l = some o) (n : NoTb o) : G1 l = none := by
  cases q : G1 l with
  | none => rfl
  | some u =>
    rcases s.fr l (by rw [q]; simp) with z | z
    · exact absurd g z
    · exact absurd z (nf_no h n)

/-! ### comprehensions -/
/-- a fresh list is made, held by nobody else -/
def MN (W : Wld T) (te : TE) (env : Env') (c k : Nat) (P : List D → Prop) : Prop := ∀ G0 H0 σ G H, At W G0 H0 c G H σ env → ∀ Q : VK,
  (∀ p xs ds G2 H2, Stp W G H G2 H2 → GOk W G2 H2 → W.J (c + k) H2 → H2 p = some (.lst xs) → G2 p = none → Nf H p → ¬ W.M p → RpL G2 xs ds → P ds → Q (.ref p) H2) → te σ H Q
theorem MN.en {te : TE} {env : Env'} {P : List D → Prop} {P' : D → Prop} (h : MN W te env c k P) (hp : ∀ ds, P ds → P' (.lst ds)) : EN W te env c k P' := fun G0 H0 σ G H A Q q =>
  h G0 H0 σ G H A Q fun p xs ds G2 H2 s g j hp2 gp nf m r pd => q (.ref p) (.lst ds) (upd G2 p (.lst xs)) H2 (stp_frz s nf gp) (gok_frz g hp2 (noTb_lst _) m) j (.lst upd_same (r.mono (same_new gp _))) (hp ds pd)
theorem mn_lc {wi : TI} {tg : TG} {tt : TT} {te : TE} {vs : List Nat} {env : Env'} {k0 kt ke n : Nat} {P0 : List D → Prop} (envT : D → Env') (Pt : Nat → D → Bool → Prop) (Pe : Nat → D → D → Prop)
    (hs : SrcN W wi env c k0 P0) (hn : ∀ l, P0 l → l.length ≤ n) (hn2 : n ≤ 100000)
    (htg : ∀ l, P0 l → ∀ d ∈ l, TgC W tg vs d (wipeE env vs) (envT d)) (ht : ∀ l, P0 l → ∀ (i : Nat) (d : D), l[i]? = some d → ∀ c', c' + (kt + ke) ≤ c + (k0 + (kt + ke) * n) → ETN W tt (envT d) c' kt (Pt i d))
    (he : ∀ l, P0 l → ∀ (i : Nat) (d : D), l[i]? = some d → ∀ c', c' + ke ≤ c + (k0 + (kt + ke) * n) → Pt i d true → EN W te (envT d) c' ke (Pe i d)) :
    MN W (tLc wi tg tt te vs) env c (k0 + (kt + ke) * n) (fun ds => ∃ (l : List D) (os : List (Option D)), P0 l ∧ os.length = l.length ∧ (∀ (i : Nat) (x : D) (o : Option D), l[i]? = some x → os[i]? = some o → (o = none ∧ Pt i x false) ∨ ∃ y, o = some y ∧ Pt i x true ∧ Pe i x y) ∧ ds = os.filterMap id) := by
  intro G0 H0 σ G H A Q q
  refine hs G0 H0 σ G H A _ fun J G1 H1 l s1 g1 j1 p0 its => ?_
  intro Dl hD
  have gD : G1 Dl = none := g1.none hD
  have mD : ¬ W.M Dl := fun m => W.mtr j1 m (nf_none hD)
  have nD := nf_none hD
  have hln := hn l p0
  refine ⟨fun i m H' => m = l.length - i ∧ i ≤ l.length ∧ ∃ (G' : Hp) (acc : List V) (os : List (Option D)), Stp W G1 H1 G' H' ∧ GOk W G' H' ∧ W.J (c + k0 + (kt + ke) * i) H' ∧ H' Dl = some (.lst acc) ∧ G' Dl = none ∧ RpL G' acc (os.filterMap id) ∧ os.length = i ∧
    (∀ (i : Nat) (x : D) (o : Option D), l[i]? = some x → os[i]? = some o → (o = none ∧ Pt i x false) ∨ ∃ y, o = some y ∧ Pt i x true ∧ Pe i x y), ⟨l.length, by simp, Nat.zero_le _, G1, [], [], stp_upd Stp.refl nD (noTb_lst _), gok_upd g1 gD, J_new j1 hD, upd_same, gD, .nil, rfl, fun i x o _ z => by simp at z⟩, ?_⟩
  rintro i m H' ⟨rfl, hi, G', acc, os, s', g', j', hDl, gDl, rA, ol, oR⟩
  by_cases hlt : i < l.length
  · refine .inr ⟨its.go i G' H' g' s'.gg ⟨_, j'⟩ hlt, fun H'' => i + 1 ≤ l.length ∧ ∃ (G' : Hp) (acc : List V) (os : List (Option D)), Stp W G1 H1 G' H'' ∧ GOk W G' H'' ∧ W.J (c + k0 + (kt + ke) * (i + 1)) H'' ∧ H'' Dl = some (.lst acc) ∧ G' Dl = none ∧ RpL G' acc (os.filterMap id) ∧ os.length = i + 1 ∧
      (∀ (i : Nat) (x : D) (o : Option D), l[i]? = some x → os[i]? = some o → (o = none ∧ Pt i x false) ∨ ∃ y, o = some y ∧ Pt i x true ∧ Pe i x y), fun H'' h => ⟨l.length - (i + 1), by omega, rfl, h⟩, fun x H2 hy => ?_⟩
    have hx : l[i]? = some l[i] := List.getElem?_eq_getElem hlt
    obtain ⟨G2, s2, g2, j2, r2⟩ := its.yld i l[i] _ G' H' x H2 g' s'.gg j' hx hy
    have hmem : l[i] ∈ l := List.getElem_mem hlt
    have mul1 : (kt + ke) * (i + 1) ≤ (kt + ke) * n := Nat.mul_le_mul_left _ (by omega)
    have mul2 : (kt + ke) * (i + 1) = (kt + ke) * i + (kt + ke) := Nat.mul_succ _ _
    have A2 := ((A.step s1 g1 j1).step (s'.trans s2) g2 j2).wipe vs
    refine htg l p0 _ hmem _ _ _ _ _ _ x A2 r2 _ fun σ3 w3 A3 => ⟨w3.trans wipe_wipe, ?_⟩
    refine ht l p0 _ _ hx _ (by omega) _ _ _ _ _ A3 _ fun b G3 H3 s3 g3 j3 pb => ?_
    have s13 := (s'.trans s2).trans s3
    have d2 := s2.hh Dl _ hDl mD (noTb_lst _)
    have d3 := s3.hh Dl _ d2 mD (noTb_lst _)
    have n2 := s2.gone gDl hDl (noTb_lst _)
    have n3 := s3.gone n2 d2 (noTb_lst _)
    have rA3 := (rA.mono s2.gg).mono s3.gg
    cases b with
    | false =>
      refine (if_neg Bool.false_ne_true).mpr ?_
      refine ⟨hlt, G3, acc, os ++ [none], s13, g3, W.mono (by omega) j3, d3, n3, by rw [List.filterMap_append]; simpa using rA3, by simp [ol], fun k y o h1 h2 => ?_⟩
      by_cases hk : k < i
      · rw [List.getElem?_append_left (by omega)] at h2
        exact oR k y o h1 h2
      · by_cases hk2 : k = i
        · subst hk2
          rw [List.getElem?_append_right (by omega), ol, Nat.sub_self] at h2
          cases h2
          rw [hx] at h1
          cases h1
          exact .inl ⟨rfl, pb⟩
        · rw [List.getElem?_eq_none (by simp; omega)] at h2; cases h2
    | true =>
      refine (if_pos rfl).mpr ?_
      refine he l p0 _ _ hx _ (by omega) pb _ _ _ _ _ (A3.step s3 g3 j3) _ fun y e G4 H4 s4 g4 j4 r4 pe => ?_
      have d4 := s4.hh Dl _ d3 mD (noTb_lst _)
      have n4 := s4.gone n3 d3 (noTb_lst _)
      refine ⟨acc, d4, ?_, hlt, G4, acc ++ [y], os ++ [some e], stp_upd (s13.trans s4) nD (noTb_lst _), gok_upd g4 n4, ?_, upd_same, n4, ?_, by simp [ol], fun k y o h1 h2 => ?_⟩
      · have := rA.len
        have h3 := List.length_filterMap_le id os
        exact Nat.lt_of_lt_of_le (Nat.lt_succ_of_le (by omega : acc.length ≤ 100000)) (by decide)
      · exact W.updl (W.mono (by omega) j4) mD d4
      · rw [List.filterMap_append]
        exact (rA3.mono s4.gg).app (.cons r4 .nil)
      · by_cases hk : k < i
        · rw [List.getElem?_append_left (by omega)] at h2
          exact oR k y o h1 h2
        · by_cases hk2 : k = i
          · subst hk2
            rw [List.getElem?_append_right (by omega), ol, Nat.sub_self] at h2
            cases h2
            rw [hx] at h1
            cases h1
            exact .inr ⟨_, rfl, pb, pe⟩
          · rw [List.getElem?_eq_none (by simp; omega)] at h2; cases h2
  · have e : i = l.length := by omega
    subst e
    refine .inl ⟨its.stop _ G' H' g' s'.gg ⟨_, j'⟩ (Nat.le_refl _), ?_⟩
    have hDn : Nf H Dl := s1.dom Dl nD
    have mul1 : (kt + ke) * l.length ≤ (kt + ke) * n := Nat.mul_le_mul_left _ hln
    exact q Dl acc _ G' H' (s1.trans s') g' (W.mono (by omega) j') hDl gDl hDn mD rA ⟨l, os, p0, ol, oR, rfl⟩
theorem en_lc {wi : TI} {tg : TG} {tt : TT} {te : TE} {vs : List Nat} {env : Env'} {k0 kt ke n : Nat} {P0 : List D → Prop} (envT : D → Env') (Pt : Nat → D → Bool → Prop) (Pe : Nat → D → D → Prop)
    (hs : SrcN W wi env c k0 P0) (hn : ∀ l, P0 l → l.length ≤ n) (hn2 : n ≤ 100000)
    (htg : ∀ l, P0 l → ∀ d ∈ l, TgC W tg vs d (wipeE env vs) (envT d)) (ht : ∀ l, P0 l → ∀ (i : Nat) (d : D), l[i]? = some d → ∀ c', c' + (kt + ke) ≤ c + (k0 + (kt + ke) * n) → ETN W tt (envT d) c' kt (Pt i d))
    (he : ∀ l, P0 l → ∀ (i : Nat) (d : D), l[i]? = some d → ∀ c', c' + ke ≤ c + (k0 + (kt + ke) * n) → Pt i d true → EN W te (envT d) c' ke (Pe i d)) :
    EN W (tLc wi tg tt te vs) env c (k0 + (kt + ke) * n) (fun d => ∃ (l : List D) (os : List (Option D)), P0 l ∧ os.length = l.length ∧ (∀ (i : Nat) (x : D) (o : Option D), l[i]? = some x → os[i]? = some o → (o = none ∧ Pt i x false) ∨ ∃ y, o = some y ∧ Pt i x true ∧ Pe i x y) ∧ d = .lst (os.filterMap id)) := MN.en (mn_lc envT Pt Pe hs hn hn2 htg ht he) fun ds ⟨l, os, h1, h2, h3, h4⟩ => ⟨l, os, h1, h2, h3, congrArg D.lst h4⟩
/-- the same where all is decided -/
theorem ed_lc {α : Type} (xs : List α) (emb : α → D) (envT : D → Env') (f : α → Bool) (g : α → D) {wi : TI} {tg : TG} {tt : TT} {te : TE} {vs : List Nat} {env : Env'} (hs : Src W wi env (xs.map emb)) (hz : xs.length ≤ 100000)
    (htg : ∀ x ∈ xs, TgC W tg vs (emb x) (wipeE env vs) (envT (emb x))) (ht : ∀ x ∈ xs, ET W tt (envT (emb x)) (f x)) (he : ∀ x ∈ xs, f x = true → ED W te (envT (emb x)) (g x)) :
    ED W (tLc wi tg tt te vs) env (.lst ((xs.filter f).map g)) := by
  refine EN.det fun c => ?_
  refine EN.imp (en_lc (c := c) (n := xs.length) (k0 := 0) (kt := 0) (ke := 0) envT (fun i _ b => ∃ x, xs[i]? = some x ∧ b = f x) (fun i _ e => ∃ x, xs[i]? = some x ∧ e = g x) hs.n (fun l h => by rw [h]; simp) hz (fun l h d hd => ?_) (fun l h i d hd c' _ => ?_) fun l h i d hd c' _ pt => ?_) (by simp) fun d h => ?_
  · rw [h] at hd
    obtain ⟨x, hx, rfl⟩ := List.mem_map.mp hd
    exact htg x hx
  · rw [h, List.getElem?_map] at hd
    cases e : xs[i]? with
    | none => rw [e] at hd; cases hd
    | some x =>
      rw [e] at hd
      cases hd
      intro G0 H0 σ G H A Q q
      exact ht x (List.mem_of_getElem? e) c' G0 H0 σ G H A Q fun G2 H2 s g j => q _ G2 H2 s g j ⟨x, rfl, rfl⟩
  · rw [h, List.getElem?_map] at hd
    obtain ⟨x, e, fx⟩ := pt
    rw [e] at hd
    cases hd
    intro G0 H0 σ G H A Q q
    exact he x (List.mem_of_getElem? e) fx.symm c' G0 H0 σ G H A Q fun v G2 H2 s g j r => q v _ G2 H2 s g j r ⟨x, e, rfl⟩
  · obtain ⟨l, os, rfl, ol, oR, rfl⟩ := h
    have e : os = xs.map fun x => if f x = true then some (g x) else none := by
      apply List.ext_getElem?
      intro i
      rw [List.getElem?_map]
      cases ex : xs[i]? with
      | none =>
        have := List.getElem?_eq_none_iff.mp ex
        rw [List.getElem?_eq_none (by rw [ol, List.length_map]; exact this)]
        rfl
      | some x =>
        have hi := (List.getElem?_eq_some_iff.mp ex).1
        have hi2 : i < os.length := by rw [ol, List.length_map]; exact hi
        rw [List.getElem?_eq_getElem hi2]
        have h2 := oR i (emb x) os[i] (by rw [List.getElem?_map, ex]; rfl) (List.getElem?_eq_getElem hi2)
        rw [ex] at h2
        rcases h2 with ⟨e1, y, e2, e3⟩ | ⟨y, e1, ⟨z, e2, e3⟩, w, e4, e5⟩
        · cases e2
          rw [e1]
          show some none = some (if f x = true then some (g x) else none)
          rw [← e3, if_neg Bool.false_ne_true]
        · cases e2
          cases e4
          rw [e1, e5]
          show some (some (g x)) = some (if f x = true then some (g x) else none)
          rw [← e3, if_pos rfl]
    rw [e]
    congr 1
    clear e ol oR hs hz htg ht he os c
    induction xs with
    | nil => rfl
    | cons x r ih =>
      rw [List.map_cons, List.filterMap_cons, List.filter_cons]
      by_cases hf : f x = true
      · rw [if_pos hf, if_pos hf, List.map_cons, ← ih]
        rfl
      · rw [if_neg hf, if_neg hf, ← ih]
        rfl
end
end Fx

set_option Elab.async false
set_option linter.all false
set_option maxRecDepth 100000
set_option maxHeartbeats 4000000
/-! Statements, defs. -/
namespace Fx
open PySem PySem.Spec PyProof.Rows L2
section
variable {T : List (Addr × Str)} {W : Wld T} {G H G1 H1 G2 H2 H0 : Hp} {G0 : Hp × Hp} {c c' k : Nat} {K : PySem.W.Frag}
structure Po where
  nx : Env' → Nat → Prop
  rt : D → Nat → Prop
  bk : Env' → Nat → Prop := fun _ _ => False
  ct : Env' → Nat → Prop := fun _ _ => False
  xE : XK := fun _ _ _ => False
  xP : Addr → List (Str × D) → Nat → Prop := fun _ _ _ => False
structure Fits (W : Wld T) (G0 : Hp × Hp) (H0 : Hp) (po : Po) (E : Ends) : Prop where
  nx : ∀ σ2 env2 c2 G2 H2, At W G0 H0 c2 G2 H2 σ2 env2 → po.nx env2 c2 → E.nx σ2 H2
  rt : ∀ v d c2 G2 H2, Stp W G0.2 H0 G2 H2 → GOk W G2 H2 → W.J c2 H2 → Rp G2 v d → po.rt d c2 → E.rt v H2
  bk : ∀ σ2 env2 c2 G2 H2, At W G0 H0 c2 G2 H2 σ2 env2 → po.bk env2 c2 → E.bk σ2 H2
  ct : ∀ σ2 env2 c2 G2 H2, At W G0 H0 c2 G2 H2 σ2 env2 → po.ct env2 c2 → E.ct σ2 H2
  xx : ∀ C fs d c2 G2 H2, Stp W G0.2 H0 G2 H2 → GOk W G2 H2 → W.J c2 H2 → XDat G2 d fs → po.xP C fs c2 → po.xE (.ref C) d H2
def Tr (W : Wld T) (ts : TS) (env : Env') (c : Nat) (po : Po) : Prop := ∀ G0 H0 σ G H, At W G0 H0 c G H σ env → ∀ E : Ends, Fits W G0 H0 po E → ts E σ H

theorem tr_seq {t u : TS} {env : Env'} {po : Po} (R : Env' → Nat → Prop) (h : Tr W t env c { po with nx := R }) (k : ∀ env2 c2, R env2 c2 → Tr W u env2 c2 po) : Tr W (tSeq t u) env c po := fun G0 H0 σ G H A E F =>
  h G0 H0 σ G H A { E with nx := u E } ⟨fun σ2 env2 c2 G2 H2 A2 r => k env2 c2 r G0 H0 σ2 G2 H2 A2 E F, F.rt, F.bk, F.ct, F.xx⟩
theorem tr_next {env : Env'} {po : Po} (h : po.nx env c) : Tr W tNext env c po := fun G0 H0 σ G H A E F => F.nx _ _ _ _ _ A h
theorem tr_break {env : Env'} {po : Po} (h : po.bk env c) : Tr W tBreak env c po := fun G0 H0 σ G H A E F => F.bk _ _ _ _ _ A h
theorem tr_cont {env : Env'} {po : Po} (h : po.ct env c) : Tr W tCont env c po := fun G0 H0 σ G H A E F => F.ct _ _ _ _ _ A h
/-- x = e -/
theorem tr_set1 {te : TE} {env : Env'} {po : Po} {i : Nat} {d : D} (h : ED W te env d) (k : po.nx (env.set i (.dat d)) c) : Tr W (tAsg te (gName i)) env c po := fun G0 H0 σ G H A E F =>
  h c G0 H0 σ G H A _ fun v G1 H1 s1 g1 j1 r1 => F.nx _ _ _ _ _ ((A.step s1 g1 j1).setD i r1) k
theorem tr_set {te : TE} {u : TS} {env : Env'} {po : Po} {i : Nat} {d : D} (h : ED W te env d) (k : Tr W u (env.set i (.dat d)) c po) : Tr W (tSeq (tAsg te (gName i)) u) env c po := fun G0 H0 σ G H A E F =>
  h c G0 H0 σ G H A _ fun v G1 H1 s1 g1 j1 r1 => k _ _ _ _ _ ((A.step s1 g1 j1).setD i r1) E F
theorem tr_setN1 {te : TE} {env : Env'} {po : Po} {i n : Nat} {P : D → Prop} (h : EN W te env c n P) (k : ∀ d, P d → po.nx (env.set i (.dat d)) (c + n)) : Tr W (tAsg te (gName i)) env c po := fun G0 H0 σ G H A E F =>
  h G0 H0 σ G H A _ fun v d G1 H1 s1 g1 j1 r1 p => F.nx _ _ _ _ _ ((A.step s1 g1 j1).setD i r1) (k d p)
theorem tr_setN {te : TE} {u : TS} {env : Env'} {po : Po} {i n : Nat} {P : D → Prop} (h : EN W te env c n P) (k : ∀ d, P d → Tr W u (env.set i (.dat d)) (c + n) po) : Tr W (tSeq (tAsg te (gName i)) u) env c po := fun G0 H0 σ G H A E F =>
  h G0 H0 σ G H A _ fun v d G1 H1 s1 g1 j1 r1 p => k d p _ _ _ _ _ ((A.step s1 g1 j1).setD i r1) E F
/-- any target -/
theorem tr_tgN {te : TE} {u : TS} {env : Env'} {po : Po} {n : Nat} {P : D → Prop} {g : TG} (h : EN W te env c n P) (k : ∀ d, P d → ∃ env2, TgOk W g d env env2 ∧ Tr W u env2 (c + n) po) : Tr W (tSeq (tAsg te g) u) env c po := fun G0 H0 σ G H A E F =>
  h G0 H0 σ G H A _ fun v d G1 H1 s1 g1 j1 r1 p => by
    obtain ⟨env2, tg, t⟩ := k d p
    exact tg _ _ _ _ _ _ _ (A.step s1 g1 j1) r1 _ fun σ' A' => t _ _ _ _ _ A' E F
theorem tr_tg {te : TE} {u : TS} {env env2 : Env'} {po : Po} {d : D} {g : TG} (h : ED W te env d) (tg : TgOk W g d env env2) (k : Tr W u env2 c po) : Tr W (tSeq (tAsg te g) u) env c po := fun G0 H0 σ G H A E F =>
  h c G0 H0 σ G H A _ fun v G1 H1 s1 g1 j1 r1 => tg _ _ _ _ _ _ _ (A.step s1 g1 j1) r1 _ fun σ' A' => k _ _ _ _ _ A' E F
/-- x, y = e1, e2 -/
theorem tr_par {ta : TA} {u : TS} {env : Env'} {po : Po} {i j : Nat} {d1 d2 : D} (h : EA W ta env [d1, d2]) (k : Tr W u ((env.set i (.dat d1)).set j (.dat d2)) c po) : Tr W (tSeq (tPar i j ta) u) env c po := fun G0 H0 σ G H A E F =>
  h c G0 H0 σ G H A _ fun vs G1 H1 s1 g1 j1 r1 => by
    cases r1 with
    | cons r1 r2 =>
      cases r2 with
      | cons r2 r3 =>
        cases r3
        exact ⟨_, _, rfl, k _ _ _ _ _ (((A.step s1 g1 j1).setD i r1).setD j r2) E F⟩
theorem tr_parN {ta : TA} {u : TS} {env : Env'} {po : Po} {i j n : Nat} {P : List D → Prop} (h : EAN W ta env c n P) (k : ∀ l, P l → ∃ d1 d2, l = [d1, d2] ∧ Tr W u ((env.set i (.dat d1)).set j (.dat d2)) (c + n) po) : Tr W (tSeq (tPar i j ta) u) env c po := fun G0 H0 σ G H A E F =>
  h G0 H0 σ G H A _ fun vs l G1 H1 s1 g1 j1 r1 p => by
    obtain ⟨d1, d2, rfl, t⟩ := k l p
    cases r1 with
    | cons r1 r2 =>
      cases r2 with
      | cons r2 r3 =>
        cases r3
        exact ⟨_, _, rfl, t _ _ _ _ _ (((A.step s1 g1 j1).setD i r1).setD j r2) E F⟩
theorem tr_par3N {ta : TA} {u : TS} {env : Env'} {po : Po} {i j m n : Nat} {P : List D → Prop} (h : EAN W ta env c n P) (k : ∀ l, P l → ∃ d1 d2 d3, l = [d1, d2, d3] ∧ Tr W u (((env.set i (.dat d1)).set j (.dat d2)).set m (.dat d3)) (c + n) po) : Tr W (tSeq (tPar3 i j m ta) u) env c po := fun G0 H0 σ G H A E F =>
  h G0 H0 σ G H A _ fun vs l G1 H1 s1 g1 j1 r1 p => by
    obtain ⟨d1, d2, d3, rfl, t⟩ := k l p
    cases r1 with
    | cons r1 r2 =>
      cases r2 with
      | cons r2 r3 =>
        cases r3 with
        | cons r3 r4 =>
          cases r4
          exact ⟨_, _, _, rfl, t _ _ _ _ _ ((((A.step s1 g1 j1).setD i r1).setD j r2).setD m r3) E F⟩
/-- what was just made, put into a slot; it will change -/
theorem At.setMX {σ : L2.St} {env : Env'} {p : Addr} {o : HO} {s : Slot} (A : At W G0 H0 c G H σ env) (i : Nat) (hi : i < env.length) (st : Stp W G H G2 H2) (g : GOk W G2 H2) (j : W.J c' H2) (hp : H2 p = some o) (gp : G2 p = none) (nf : Nf H p) (m : ¬ W.M p) (r : RpM G2 o s) (hs : s.isM = true) :
    At W G0 H0 c' G2 H2 (σ.set i (some (.ref p))) (env.set i s) := by
  have A' := A.step st g j
  have h0 : Nf H0 p := A.st.dom p nf
  have ap : ∀ (k : Nat) (t : Slot) (l : Addr), env[k]? = some t → t.isM = true → σ[k]? = some (some (.ref l)) → l ≠ p := fun k t l h ht h' e => by
    obtain ⟨l', o', e1, hl, _, r', _⟩ := A.env.mus k t h ht
    rw [h'] at e1
    cases e1
    rw [e] at hl
    exact nf_no hl r'.no nf
  have self : (σ.set i (some (V.ref p)))[i]? = some (some (.ref p)) := List.getElem?_set_self (by rw [A.env.len]; exact hi)
  refine ⟨A'.st, A'.sb, g, j, by rw [List.length_set, List.length_set, A.env.len], fun k e h => ?_, fun k t h ht => ?_, fun a b t u l ne h1 h2 m1 m2 h3 => ?_⟩
  · by_cases hk : k = i
    · subst hk
      rw [List.getElem?_set_self hi] at h
      cases h
      cases hs
    · rw [List.getElem?_set_ne (Ne.symm hk)] at h ⊢
      exact A'.env.dat k e h
  · by_cases hk : k = i
    · subst hk
      rw [List.getElem?_set_self hi] at h
      cases h
      exact ⟨p, o, self, hp, gp, r, m, h0⟩
    · rw [List.getElem?_set_ne (Ne.symm hk)] at h ⊢
      exact A'.env.mus k t h ht
  · by_cases ha : a = i
    · subst ha
      rw [self] at h3
      cases h3
      intro h4
      rw [List.getElem?_set_ne ne] at h2 h4
      exact ap b u p h2 m2 h4 rfl
    · by_cases hb : b = i
      · subst hb
        rw [self]
        intro h4
        cases h4
        rw [List.getElem?_set_ne (Ne.symm ha)] at h1 h3
        exact ap a t p h1 m1 h3 rfl
      · rw [List.getElem?_set_ne (Ne.symm ha)] at h1 h3
        rw [List.getElem?_set_ne (Ne.symm hb)] at h2 ⊢
        exact A'.env.apart a b t u l ne h1 h2 m1 m2 h3
/-- a new list that will change -/
theorem At.setM {σ : L2.St} {env : Env'} {p : Addr} {xs : List V} {ds : List D} (A : At W G0 H0 c G H σ env) (i : Nat) (hp : H p = none) (hi : i < env.length) (r : RpL G xs ds) : At W G0 H0 c G (upd H p (.lst xs)) (σ.set i (some (.ref p))) (env.set i (.mu ds)) :=
  A.setMX i hi (stp_upd Stp.refl (nf_none hp) (noTb_lst _)) (gok_upd A.gok (A.gok.none hp)) (J_new A.j hp) upd_same (A.gok.none hp) (nf_none hp) (fun m => W.mtr A.j m (nf_none hp)) (.mu r) rfl
/-- a new dict that will change -/
theorem At.setMd {σ : L2.St} {env : Env'} {p : Addr} {xs : List (Key × V)} {kvs : List (Key × D)} (A : At W G0 H0 c G H σ env) (i : Nat) (hp : H p = none) (hi : i < env.length) (r : RpK G xs kvs) : At W G0 H0 c G (upd H p (.dK xs)) (σ.set i (some (.ref p))) (env.set i (.md kvs)) :=
  A.setMX i hi (stp_upd Stp.refl (nf_none hp) (noTb_dK _)) (gok_upd A.gok (A.gok.none hp)) (J_new A.j hp) upd_same (A.gok.none hp) (nf_none hp) (fun m => W.mtr A.j m (nf_none hp)) (.md r) rfl
/-- a fresh list, put into a slot -/
theorem At.setMN {σ : L2.St} {env : Env'} {p : Addr} {xs : List V} {ds : List D} (A : At W G0 H0 c G H σ env) (i : Nat) (hi : i < env.length) (s : Stp W G H G2 H2) (g : GOk W G2 H2) (j : W.J c' H2) (hp : H2 p = some (.lst xs)) (gp : G2 p = none) (nf : Nf H p) (m : ¬ W.M p) (r : RpL G2 xs ds) :
    At W G0 H0 c' G2 H2 (σ.set i (some (.ref p))) (env.set i (.mu ds)) := A.setMX i hi s g j hp gp nf m (.mu r) rfl
theorem tr_setMN1 {te : TE} {env : Env'} {po : Po} {i n : Nat} {P : List D → Prop} (hi : i < env.length) (h : MN W te env c n P) (k : ∀ ds, P ds → po.nx (env.set i (.mu ds)) (c + n)) : Tr W (tAsg te (gName i)) env c po := fun G0 H0 σ G H A E F =>
  h G0 H0 σ G H A _ fun p xs ds G2 H2 s g j hp gp nf m r pd => F.nx _ _ _ _ _ (A.setMN i hi s g j hp gp nf m r) (k ds pd)
theorem tr_setMN {te : TE} {u : TS} {env : Env'} {po : Po} {i n : Nat} {P : List D → Prop} (hi : i < env.length) (h : MN W te env c n P) (k : ∀ ds, P ds → Tr W u (env.set i (.mu ds)) (c + n) po) : Tr W (tSeq (tAsg te (gName i)) u) env c po :=
  tr_seq (fun e2 c2 => Tr W u e2 c2 po) (tr_setMN1 hi h k) fun _ _ h => h
theorem tr_new {u : TS} {env : Env'} {po : Po} {i : Nat} (hi : i < env.length) (k : Tr W u (env.set i (.mu [])) c po) : Tr W (tSeq (tAsg (tLst tNil) (gName i)) u) env c po := fun G0 H0 σ G H A E F =>
  ⟨Nat.zero_le _, fun p hp => k _ _ _ _ _ (A.setM i hp hi .nil) E F⟩
theorem tr_par_new {te : TE} {u : TS} {env : Env'} {po : Po} {i j : Nat} {d : D} (hi : i < env.length) (ne : i ≠ j) (h : ED W te (env.set i (.mu [])) d) (h' : ∀ σ v H Q, te (σ.set i v) H Q → te σ H Q) (k : Tr W u ((env.set i (.mu [])).set j (.dat d)) c po) : Tr W (tSeq (tPar i j (tCons (tLst tNil) (tCons te tNil))) u) env c po := fun G0 H0 σ G H A E F =>
  ⟨Nat.zero_le _, fun p hp => h' σ (some (.ref p)) _ _ (h c _ _ _ _ _ (A.setM i hp hi .nil) _ fun v G1 H1 s1 g1 j1 r1 => ⟨_, _, rfl, k _ _ _ _ _ (((A.setM i hp hi .nil).step s1 g1 j1).setD j r1) E F⟩)⟩
/-- what the slot holds is changed -/
theorem At.chX {σ : L2.St} {env : Env'} {l : Addr} {o : HO} {s s' : Slot} {i : Nat} (A : At W G0 H0 c G H σ env) (he : env[i]? = some s) (hs : s.isM = true) (hl : σ[i]? = some (some (.ref l))) (hj : W.J c (upd H l o)) (r : RpM G o s') (hs' : s'.isM = true) : At W G0 H0 c G (upd H l o) σ (env.set i s') := by
  obtain ⟨l', o', e1, hl', gl, rr, m, h0⟩ := A.env.mus i s he hs
  rw [hl] at e1
  cases e1
  have hi : i < env.length := (List.getElem?_eq_some_iff.mp he).1
  refine ⟨stp_upd A.st h0 r.no, A.sb, gok_upd A.gok gl, hj, by rw [List.length_set, A.env.len], fun k e h => ?_, fun k t h ht => ?_, fun a b t u l1 ne h1 h2 m1 m2 h3 => ?_⟩
  · by_cases hk : k = i
    · subst hk
      rw [List.getElem?_set_self hi] at h
      cases h
      cases hs'
    · rw [List.getElem?_set_ne (Ne.symm hk)] at h
      exact A.env.dat k e h
  · by_cases hk : k = i
    · subst hk
      rw [List.getElem?_set_self hi] at h
      cases h
      exact ⟨_, o, hl, upd_same, gl, r, m, h0⟩
    · rw [List.getElem?_set_ne (Ne.symm hk)] at h
      obtain ⟨l2, zs, e, hl2, q⟩ := A.env.mus k t h ht
      have n : l2 ≠ l := fun z => by
        subst z
        exact A.env.apart i k s t l2 (Ne.symm hk) he h hs ht hl e
      exact ⟨l2, zs, e, by rw [upd_ne n]; exact hl2, q⟩
  · have key : ∀ (k : Nat) (x : Slot), (env.set i s')[k]? = some x → x.isM = true → ∃ y, env[k]? = some y ∧ y.isM = true := fun k x h hx => by
      by_cases hk : k = i
      · rw [hk]
        exact ⟨s, he, hs⟩
      · rw [List.getElem?_set_ne (Ne.symm hk)] at h
        exact ⟨x, h, hx⟩
    obtain ⟨y1, z1, w1⟩ := key a _ h1 m1
    obtain ⟨y2, z2, w2⟩ := key b _ h2 m2
    exact A.env.apart a b y1 y2 l1 ne z1 z2 w1 w2 h3
/-- the list is changed -/
theorem At.chM {σ : L2.St} {env : Env'} {l : Addr} {ys : List V} {ds es : List D} {i : Nat} (A : At W G0 H0 c G H σ env) (he : env[i]? = some (.mu ds)) (hs : σ[i]? = some (some (.ref l))) (r : RpL G ys es) : At W G0 H0 c G (upd H l (.lst ys)) σ (env.set i (.mu es)) := by
  obtain ⟨l', xs', e1, hl, gl, rr, m, h0⟩ := A.env.mu i ds he
  rw [hs] at e1
  cases e1
  exact A.chX he rfl hs (W.updl A.j m hl) (.mu r) rfl
/-- the dict is changed -/
theorem At.chD {σ : L2.St} {env : Env'} {l : Addr} {ys : List (Key × V)} {ds es : List (Key × D)} {i : Nat} (A : At W G0 H0 c G H σ env) (he : env[i]? = some (.md ds)) (hs : σ[i]? = some (some (.ref l))) (r : RpK G ys es) : At W G0 H0 c G (upd H l (.dK ys)) σ (env.set i (.md es)) := by
  obtain ⟨l', xs', e1, hl, gl, rr, m, h0⟩ := A.env.md i ds he
  rw [hs] at e1
  cases e1
  exact A.chX he rfl hs (W.upddk A.j m hl) (.md r) rfl
theorem ev_md {env : Env'} {ds : List (Key × D)} {i : Nat} {σ : L2.St} (A : At W G0 H0 c G H σ env) (he : env[i]? = some (.md ds)) : ∃ l xs, σ[i]? = some (some (.ref l)) ∧ H l = some (.dK xs) ∧ RpK G xs ds ∧ ¬ W.M l ∧ G l = none := by
  obtain ⟨l', xs', e1, hl, gl, rr, m, h0⟩ := A.env.md i ds he
  exact ⟨l', xs', e1, hl, rr, m, gl⟩
theorem ev_mu {env : Env'} {ds : List D} {i : Nat} {σ : L2.St} (A : At W G0 H0 c G H σ env) (he : env[i]? = some (.mu ds)) : ∃ l xs, σ[i]? = some (some (.ref l)) ∧ H l = some (.lst xs) ∧ RpL G xs ds ∧ ¬ W.M l ∧ G l = none := by
  obtain ⟨l', xs', e1, hl, gl, rr, m, h0⟩ := A.env.mu i ds he
  exact ⟨l', xs', e1, hl, rr, m, gl⟩
theorem app_core {te : TE} {env : Env'} {i n : Nat} {ds : List D} {P : D → Prop} (he : env[i]? = some (.mu ds)) (hz : ds.length < 100000) (h : EN W te env c n P) {σ : L2.St} (A : At W G0 H0 c G H σ env) {Q : Hp → Prop}
    (q : ∀ d G2 H2, P d → At W G0 H0 (c + n) G2 H2 σ (env.set i (.mu (ds ++ [d]))) → Q H2) : tBM K "list" rAppend (tVar i) (tCons te tNil) σ H fun _ H1 => Q H1 := by
  obtain ⟨l, xs, e1, hl, rr, m, gl⟩ := ev_mu A he
  refine ⟨_, e1, .inl ⟨rfl, xs, SqL.of hl⟩, ?_⟩
  refine h _ _ _ _ _ A _ fun v d G1 H1 s1 g1 j1 r1 p => ?_
  have hl1 := s1.hh l _ hl m (noTb_lst _)
  refine ⟨l, xs, v, rfl, rfl, hl1, Nat.lt_of_lt_of_le (by rw [rr.len]; exact hz) (by decide), q d G1 _ p ?_⟩
  exact (A.step s1 g1 j1).chM he e1 ((rr.mono s1.gg).app (.cons r1 .nil))
/-- x.append(e) -/
theorem tr_app {te : TE} {u : TS} {env : Env'} {po : Po} {i : Nat} {ds : List D} {d : D} (he : env[i]? = some (.mu ds)) (hz : ds.length < 100000) (h : ED W te env d) (k : Tr W u (env.set i (.mu (ds ++ [d]))) c po) : Tr W (tSeq (tDrop (tBM K "list" rAppend (tVar i) (tCons te tNil))) u) env c po := fun G0 H0 σ G H A E F =>
  app_core he hz h.n A fun d' G2 H2 p A2 => by
    subst p
    exact k _ _ _ _ _ A2 E F
theorem tr_app1 {te : TE} {env : Env'} {po : Po} {i : Nat} {ds : List D} {d : D} (he : env[i]? = some (.mu ds)) (hz : ds.length < 100000) (h : ED W te env d) (k : po.nx (env.set i (.mu (ds ++ [d]))) c) : Tr W (tDrop (tBM K "list" rAppend (tVar i) (tCons te tNil))) env c po := fun G0 H0 σ G H A E F =>
  app_core he hz h.n A fun d' G2 H2 p A2 => by
    subst p
    exact F.nx _ _ _ _ _ A2 k
theorem tr_appN1 {te : TE} {env : Env'} {po : Po} {i n : Nat} {ds : List D} {P : D → Prop} (he : env[i]? = some (.mu ds)) (hz : ds.length < 100000) (h : EN W te env c n P) (k : ∀ d, P d → po.nx (env.set i (.mu (ds ++ [d]))) (c + n)) : Tr W (tDrop (tBM K "list" rAppend (tVar i) (tCons te tNil))) env c po := fun G0 H0 σ G H A E F =>
  app_core he hz h A fun d' G2 H2 p A2 => F.nx _ _ _ _ _ A2 (k d' p)
/-- x[e1] = e2 -/
theorem tr_setL {te ti : TE} {u : TS} {env : Env'} {po : Po} {i n : Nat} {j : Nat} {ds : List D} {P : D → Prop} (he : env[i]? = some (.mu ds)) (h : EN W te env c n P) (hi : ED W ti env (.int (j : Nat))) (hj : j < ds.length) (k : ∀ d, P d → Tr W u (env.set i (.mu (ds.set j d))) (c + n) po) : Tr W (tSeq (tAsg te (gSub (tVar i) ti rSetL)) u) env c po := fun G0 H0 σ G H A E F => by
  obtain ⟨l, xs, e1, hl, rr, m, gl⟩ := ev_mu A he
  refine h _ _ _ _ _ A _ fun v d G1 H1 s1 g1 j1 r1 p => ?_
  refine ⟨_, e1, ?_⟩
  refine hi _ _ _ _ _ _ (A.step s1 g1 j1) _ fun v2 G2 H2 s2 g2 j2 r2 => ?_
  cases r2
  have hl2 := (s1.trans s2).hh l _ hl m (noTb_lst _)
  refine ⟨l, xs, j, j, rfl, rfl, hl2, ?_, ?_⟩
  · have : j < xs.length := by rw [rr.len]; exact hj
    unfold ixN
    rw [if_pos (by omega), if_pos (by omega)]
    simp
  · exact k d p _ _ _ _ _ (((A.step s1 g1 j1).step s2 g2 j2).chM he e1 (RpL.set (r1.mono s2.gg) j (rr.mono (s1.trans s2).gg))) E F
/-- from now on the list stands still -/
theorem At.frz {σ : L2.St} {env : Env'} {ds : List D} {i : Nat} (A : At W G0 H0 c G H σ env) (he : env[i]? = some (.mu ds)) : ∃ G', At W G0 H0 c G' H σ (env.set i (.dat (.lst ds))) := by
  obtain ⟨l, xs, e1, hl, gl, rr, m, h0⟩ := A.env.mu i ds he
  have hi : i < env.length := (List.getElem?_eq_some_iff.mp he).1
  have sn := same_new gl (HO.lst xs)
  have key : ∀ (k : Nat) (x : Slot), (env.set i (.dat (.lst ds)))[k]? = some x → x.isM = true → k ≠ i ∧ env[k]? = some x := fun k x h hx => by
    by_cases hk : k = i
    · subst hk
      rw [List.getElem?_set_self hi] at h
      cases h
      cases hx
    · rw [List.getElem?_set_ne (Ne.symm hk)] at h
      exact ⟨hk, h⟩
  refine ⟨upd G l (.lst xs), stp_frz A.st h0 gl, A.sb.trans sn, gok_frz A.gok hl (noTb_lst _) m, A.j, by rw [List.length_set, A.env.len], fun k e h => ?_, fun k es h hes => ?_, fun a b t u l1 ne h1 h2 m1 m2 h3 => ?_⟩
  · by_cases hk : k = i
    · subst hk
      rw [List.getElem?_set_self hi] at h
      cases h
      exact ⟨_, e1, .lst upd_same (rr.mono sn)⟩
    · rw [List.getElem?_set_ne (Ne.symm hk)] at h
      obtain ⟨v, q1, q2⟩ := A.env.dat k e h
      exact ⟨v, q1, q2.mono sn⟩
  · obtain ⟨hk, h⟩ := key k es h hes
    obtain ⟨l2, zs, e, hl2, gl2, q, m2⟩ := A.env.mus k es h hes
    have n : l2 ≠ l := fun z => by
      subst z
      exact A.env.apart i k _ es l2 (Ne.symm hk) he h rfl hes e1 e
    exact ⟨l2, zs, e, hl2, by rw [upd_ne n]; exact gl2, q.mono sn, m2⟩
  · exact A.env.apart a b _ _ l1 ne (key a _ h1 m1).2 (key b _ h2 m2).2 m1 m2 h3
theorem tr_frz {t : TS} {env : Env'} {po : Po} {i : Nat} {ds : List D} (he : env[i]? = some (.mu ds)) (k : Tr W t (env.set i (.dat (.lst ds))) c po) : Tr W t env c po := fun G0 H0 σ G H A E F => by
  obtain ⟨G', A'⟩ := A.frz he
  exact k _ _ _ _ _ A' E F
/-- return e -/
theorem tr_ret {te : TE} {env : Env'} {po : Po} {d : D} (h : ED W te env d) (k : po.rt d c) : Tr W (tRet te) env c po := fun G0 H0 σ G H A E F =>
  h c G0 H0 σ G H A _ fun v G1 H1 s1 g1 j1 r1 => F.rt v d c G1 H1 (A.st.trans s1) g1 j1 r1 k
theorem tr_retN {te : TE} {env : Env'} {po : Po} {n : Nat} {P : D → Prop} (h : EN W te env c n P) (k : ∀ d, P d → po.rt d (c + n)) : Tr W (tRet te) env c po := fun G0 H0 σ G H A E F =>
  h G0 H0 σ G H A _ fun v d G1 H1 s1 g1 j1 r1 p => F.rt v d _ G1 H1 (A.st.trans s1) g1 j1 r1 (k d p)
/-- an expression -/
theorem tr_drop {te : TE} {u : TS} {env : Env'} {po : Po} {d : D} (h : ED W te env d) (k : Tr W u env c po) : Tr W (tSeq (tDrop te) u) env c po := fun G0 H0 σ G H A E F =>
  h c G0 H0 σ G H A _ fun v G1 H1 s1 g1 j1 r1 => k _ _ _ _ _ (A.step s1 g1 j1) E F
/-- if -/
theorem tr_if {tt : TT} {t u : TS} {env : Env'} {po : Po} {b : Bool} (h : ET W tt env b) (h1 : b = true → Tr W t env c po) (h2 : b = false → Tr W u env c po) : Tr W (tIfS tt t u) env c po := fun G0 H0 σ G H A E F =>
  h c G0 H0 σ G H A _ fun G1 H1 s1 g1 j1 => by
    cases b with
    | true => exact h1 rfl _ _ _ _ _ (A.step s1 g1 j1) E F
    | false => exact h2 rfl _ _ _ _ _ (A.step s1 g1 j1) E F
/-- if .., then the rest -/
theorem tr_ifs {tt : TT} {t u z : TS} {env : Env'} {po : Po} {b : Bool} (h : ET W tt env b) (h1 : b = true → Tr W t env c { po with nx := fun e2 c2 => Tr W z e2 c2 po }) (h2 : b = false → Tr W u env c { po with nx := fun e2 c2 => Tr W z e2 c2 po }) : Tr W (tSeq (tIfS tt t u) z) env c po :=
  tr_seq (fun e2 c2 => Tr W z e2 c2 po) (tr_if h h1 h2) fun _ _ r => r
/-- if .. without else that leaves the def -/
theorem tr_when {tt : TT} {t z : TS} {env : Env'} {po : Po} {b : Bool} (h : ET W tt env b) (h1 : b = true → Tr W t env c { po with nx := fun e2 c2 => Tr W z e2 c2 po }) (h2 : b = false → Tr W z env c po) : Tr W (tSeq (tIfS tt t tNext) z) env c po :=
  tr_ifs h h1 fun e => tr_next (h2 e)
theorem tr_whenN {tt : TT} {t z : TS} {env : Env'} {po : Po} {n : Nat} {P : Bool → Prop} (h : ETN W tt env c n P) (h1 : P true → Tr W t env (c + n) { po with nx := fun e2 c2 => Tr W z e2 c2 po }) (h2 : P false → Tr W z env (c + n) po) : Tr W (tSeq (tIfS tt t tNext) z) env c po := fun G0 H0 σ G H A E F =>
  h G0 H0 σ G H A _ fun b G1 H1 s1 g1 j1 p => by
    cases b with
    | true => exact h1 p _ _ _ _ _ (A.step s1 g1 j1) { E with nx := z E } ⟨fun σ2 env2 c2 G2 H2 A2 r => r _ _ _ _ _ A2 E F, F.rt, F.bk, F.ct, F.xx⟩
    | false => exact h2 p _ _ _ _ _ (A.step s1 g1 j1) E F
/-- for -/
theorem tr_for {wi : TI} {g : TG} {tb : TS} {env : Env'} {po : Po} {n : Nat} {P : List D → Prop} (hs : SrcN W wi env c n P) (k : ∀ items, P items → ∃ Iv : Nat → Env' → Nat → Prop, Iv 0 env (c + n) ∧
      (∀ (i : Nat) (d : D) e1 c1, items[i]? = some d → Iv i e1 c1 → ∃ e2, TgOk W g d e1 e2 ∧ Tr W tb e2 c1 { po with nx := Iv (i + 1), ct := Iv (i + 1), bk := po.nx }) ∧ (∀ e1 c1, Iv items.length e1 c1 → po.nx e1 c1)) : Tr W (tFor wi g tb) env c po := by
  intro G0 H0 σ G H A E F
  refine hs G0 H0 σ G H A _ fun J G1 H1 items s1 g1 j1 p its => ?_
  obtain ⟨Iv, h0, hstep, hend⟩ := k items p
  refine ⟨fun i m σ' H' => m = items.length - i ∧ i ≤ items.length ∧ ∃ G' e1 c1, Same G1 G' ∧ At W G0 H0 c1 G' H' σ' e1 ∧ Iv i e1 c1, ⟨items.length, by simp, Nat.zero_le _, G1, env, c + n, fun _ _ h => h, A.step s1 g1 j1, h0⟩, ?_⟩
  rintro i m σ' H' ⟨rfl, hi, G', e1, c1, sg, A', iv⟩
  by_cases hlt : i < items.length
  · refine .inr ⟨its.go i G' H' A'.gok sg ⟨_, A'.j⟩ hlt, fun σ'' H'' => i + 1 ≤ items.length ∧ ∃ G' e1 c1, Same G1 G' ∧ At W G0 H0 c1 G' H'' σ'' e1 ∧ Iv (i + 1) e1 c1, fun σ'' H'' h => ⟨items.length - (i + 1), by omega, rfl, h⟩, fun x H2 hy => ?_⟩
    have hx : items[i]? = some items[i] := List.getElem?_eq_getElem hlt
    obtain ⟨G2, s2, g2, j2, r2⟩ := its.yld i items[i] _ G' H' x H2 A'.gok sg A'.j hx hy
    obtain ⟨e2, tg, t⟩ := hstep i items[i] e1 c1 hx iv
    refine tg _ _ _ _ _ _ _ (A'.step s2 g2 j2) r2 _ fun σ3 A3 => ?_
    refine t (G1, G0.2) H0 σ3 G2 H2 ⟨A3.st, sg.trans s2.gg, A3.gok, A3.j, A3.env⟩ _ ⟨fun σ4 e4 c4 G4 H4 A4 q => ?_, fun v d c4 G4 H4 st g j r q => F.rt v d c4 G4 H4 st g j r q, fun σ4 e4 c4 G4 H4 A4 q => ?_, fun σ4 e4 c4 G4 H4 A4 q => ?_, fun C fs d c4 G4 H4 st g j x q => F.xx C fs d c4 G4 H4 st g j x q⟩
    · exact ⟨hlt, G4, e4, c4, A4.sb, ⟨A4.st, A.sb.trans (s1.gg.trans A4.sb), A4.gok, A4.j, A4.env⟩, q⟩
    · exact F.nx _ _ _ _ _ ⟨A4.st, A.sb.trans (s1.gg.trans A4.sb), A4.gok, A4.j, A4.env⟩ q
    · exact ⟨hlt, G4, e4, c4, A4.sb, ⟨A4.st, A.sb.trans (s1.gg.trans A4.sb), A4.gok, A4.j, A4.env⟩, q⟩
  · have e : i = items.length := by omega
    subst e
    exact .inl ⟨its.stop _ G' H' A'.gok sg ⟨_, A'.j⟩ (Nat.le_refl _), F.nx _ _ _ _ _ A' (hend e1 c1 iv)⟩
end
end Fx

set_option Elab.async false
set_option linter.all false
set_option maxRecDepth 100000
set_option maxHeartbeats 4000000
/-! Operators and built-ins on data; what a def promises. -/
namespace Fx
open PySem PySem.Spec PyProof.Rows L2

/-! ### plain data: ==, != -/
mutual
def D.py : D → PyData
  | .non => .none
  | .bl b => .bool b
  | .int i => .int i
  | .str s => .str s
  | .tup ds => .tuple (pyL ds)
  | .lst ds => .list (pyL ds)
  | .dic _ => .dict []
  | .raw _ => .dict []
  | .exc _ _ => .dict []
def pyL : List D → List PyData
  | [] => []
  | d :: ds => D.py d :: pyL ds
end
mutual
/-- no deeper than n, no dict within -/
def D.ok : Nat → D → Bool
  | _, .non => true
  | _, .bl _ => true
  | _, .int _ => true
  | _, .str s => PyData.canLay0 (.str s)
  | n + 1, .tup ds => okL n ds
  | n + 1, .lst ds => okL n ds
  | 0, .tup _ => false
  | 0, .lst _ => false
  | _, .dic _ => false
  | _, .raw _ => false
  | _, .exc _ _ => false
def okL : Nat → List D → Bool
  | _, [] => true
  | n, d :: ds => D.ok n d && okL n ds
end
mutual
theorem lay_of_ok : ∀ {n : Nat} {d : D}, D.ok n d = true → PyData.canLay0 d.py = true ∧ d.py.depth ≤ n
  | n, .non, _ => ⟨rfl, by rw [D.py, PyData.depth]; omega⟩
  | n, .bl _, _ => ⟨rfl, by rw [D.py, PyData.depth]; omega⟩
  | n, .int _, _ => ⟨rfl, by rw [D.py, PyData.depth]; omega⟩
  | n, .str s, h => ⟨by rw [D.ok] at h; rw [D.py]; exact h, by rw [D.py, PyData.depth]; omega⟩
  | n + 1, .tup ds, h => by
    rw [D.ok] at h
    obtain ⟨h1, h2⟩ := lay_of_okL h
    exact ⟨by rw [D.py, PyData.canLay0]; exact h1, by rw [D.py, PyData.depth]; omega⟩
  | n + 1, .lst ds, h => by
    rw [D.ok] at h
    obtain ⟨h1, h2⟩ := lay_of_okL h
    exact ⟨by rw [D.py, PyData.canLay0]; exact h1, by rw [D.py, PyData.depth]; omega⟩
  | 0, .tup _, h => by rw [D.ok] at h; cases h
  | 0, .lst _, h => by rw [D.ok] at h; cases h
  | n, .dic _, h => by rw [D.ok] at h; cases h
  | n, .raw _, h => by rw [D.ok] at h; cases h
  | n, .exc _ _, h => by rw [D.ok] at h; cases h
theorem lay_of_okL : ∀ {n : Nat} {ds : List D}, okL n ds = true → PyData.canLayAll0 (pyL ds) = true ∧ PyData.depthAll (pyL ds) ≤ n
  | n, [], _ => ⟨rfl, by rw [pyL, PyData.depthAll]; omega⟩
  | n, d :: ds, h => by
    rw [okL, Bool.and_eq_true] at h
    obtain ⟨h1, h2⟩ := lay_of_ok h.1
    obtain ⟨h3, h4⟩ := lay_of_okL h.2
    exact ⟨by rw [pyL, PyData.canLayAll0, h1, h3]; rfl, by rw [pyL, PyData.depthAll]; omega⟩
end
theorem shaped_of_ok {n : Nat} {d : D} (h : D.ok n d = true) (hn : n ≤ 64 := by decide) : SeqAt.shaped d.py = true := by
  obtain ⟨h1, h2⟩ := lay_of_ok h
  unfold SeqAt.shaped
  rw [h1, decide_eq_true (Nat.le_trans h2 hn)]; rfl
theorem okL_map {α : Type} {n : Nat} {f : α → D} (h : ∀ x, D.ok n (f x) = true) : ∀ xs : List α, okL n (xs.map f) = true
  | [] => by rw [List.map_nil, okL]
  | x :: xs => by rw [List.map_cons, okL, h x, okL_map h xs]; rfl
theorem ok_int {n : Nat} {i : Int} : D.ok n (.int i) = true := by cases n <;> rfl
theorem ok_bl {n : Nat} {i : Bool} : D.ok n (.bl i) = true := by cases n <;> rfl
theorem ok_non {n : Nat} : D.ok n .non = true := by cases n <;> rfl
theorem okL_nil {n : Nat} : okL n [] = true := by rw [okL]
theorem okL_cons {n : Nat} {d : D} {ds : List D} (h : D.ok n d = true) (h2 : okL n ds = true) : okL n (d :: ds) = true := by rw [okL, h, h2]; rfl
/-- a tuple of ints, a list of such -/
abbrev dI (ns : List Int) : D := .tup (ns.map .int)
abbrev dLI (ns : List Int) : D := .lst (ns.map .int)
abbrev dLL (ls : List (List Int)) : D := .lst (ls.map dI)
theorem ok_dI {ns : List Int} : D.ok 1 (dI ns) = true := by
  show okL 0 _ = true
  exact okL_map (fun _ => ok_int) _
theorem ok_dI2 {ns : List Int} : D.ok 2 (dI ns) = true := by
  show okL 1 _ = true
  exact okL_map (fun _ => ok_int) _
theorem ok_dLI {ns : List Int} : D.ok 1 (dLI ns) = true := by
  show okL 0 _ = true
  exact okL_map (fun _ => ok_int) _
theorem ok_dLL {ns : List (List Int)} : D.ok 2 (dLL ns) = true := by
  show okL 1 _ = true
  exact okL_map (fun _ => ok_dI) _
section
variable {T : List (Addr × Str)} {W : Wld T} {G H G1 H1 G2 H2 H0 : Hp} {G0 : Hp × Hp} {c c' k : Nat} {K : PySem.W.Frag}
mutual
theorem Rp.dp (g : GOk W G H) : ∀ {n : Nat} {v : V} {d : D}, D.ok n d = true → Rp G v d → Dp K H v d.py
  | _, _, _, _, .non => by rw [D.py]; exact .non
  | _, _, _, _, .bl b => by rw [D.py]; exact .bl b
  | _, _, _, _, .int i => by rw [D.py]; exact .int i
  | _, _, _, _, .str s => by rw [D.py]; exact .str s
  | n, _, _, h, .raw _ => by rw [D.ok] at h; cases h
  | n, _, _, h, .dic _ _ => by rw [D.ok] at h; cases h
  | n, _, _, h, .exc0 _ => by rw [D.ok] at h; cases h
  | n, _, _, h, .exc1 _ _ _ => by rw [D.ok] at h; cases h
  | 0, _, _, h, .tup _ _ => by rw [D.ok] at h; cases h
  | 0, _, _, h, .lst _ _ => by rw [D.ok] at h; cases h
  | n + 1, _, _, h, .tup ha r => by
    rw [D.ok] at h
    rw [D.py]
    exact .tup (sqT_of g ha) (RpL.dp g h r)
  | n + 1, _, _, h, .lst ha r => by
    rw [D.ok] at h
    rw [D.py]
    exact .lst (sqL_of g ha) (RpL.dp g h r)
theorem RpL.dp (g : GOk W G H) : ∀ {n : Nat} {vs : List V} {ds : List D}, okL n ds = true → RpL G vs ds → DpAll K H vs (pyL ds)
  | _, _, _, _, .nil => by rw [pyL]; exact .nil
  | n, _, _, h, .cons r rs => by
    rw [okL, Bool.and_eq_true] at h
    rw [pyL]
    exact .cons (Rp.dp g h.1 r) (RpL.dp g h.2 rs)
end
def D.eqv (a b : D) : Bool := PyData.eqv a.py b.py
def eqvL (a b : List D) : Bool := PyData.eqvAll (pyL a) (pyL b)
theorem eqv_tup {a b : List D} : D.eqv (.tup a) (.tup b) = eqvL a b := by unfold D.eqv; rw [D.py, D.py, PyData.eqv]; rfl
theorem eqv_lst {a b : List D} : D.eqv (.lst a) (.lst b) = eqvL a b := by unfold D.eqv; rw [D.py, D.py, PyData.eqv]; rfl
theorem eqvL_nil : eqvL [] [] = true := by unfold eqvL; rw [pyL, PyData.eqvAll]
theorem eqvL_cons {a b : D} {as bs : List D} : eqvL (a :: as) (b :: bs) = (D.eqv a b && eqvL as bs) := by unfold eqvL; rw [pyL, pyL, PyData.eqvAll]; rfl
theorem eqvL_nc {b : D} {bs : List D} : eqvL [] (b :: bs) = false := by unfold eqvL; rw [pyL, pyL, PyData.eqvAll]
theorem eqvL_cn {b : D} {bs : List D} : eqvL (b :: bs) [] = false := by unfold eqvL; rw [pyL, pyL, PyData.eqvAll]
theorem eqv_int {i j : Int} : D.eqv (.int i) (.int j) = decide (i = j) := by
  unfold D.eqv; rw [D.py, D.py, PyData.eqv, Bool.beq_eq_decide_eq]
theorem eqvL_map {α : Type} [DecidableEq α] {f : α → D} (h : ∀ x y, D.eqv (f x) (f y) = decide (x = y)) : ∀ (xs ys : List α), eqvL (xs.map f) (ys.map f) = decide (xs = ys)
  | [], [] => by simp [eqvL_nil]
  | [], y :: ys => by simp [eqvL_nc]
  | x :: xs, [] => by simp [eqvL_cn]
  | x :: xs, y :: ys => by
    rw [List.map_cons, List.map_cons, eqvL_cons, h, eqvL_map h xs ys, Bool.eq_iff_iff]
    simp
theorem eqv_dI {a b : List Int} : D.eqv (dI a) (dI b) = decide (a = b) := by
  rw [eqv_tup]; exact eqvL_map (fun _ _ => eqv_int) a b
theorem eqv_dLI {a b : List Int} : D.eqv (dLI a) (dLI b) = decide (a = b) := by
  rw [eqv_lst]; exact eqvL_map (fun _ _ => eqv_int) a b
theorem eqv_dLL {a b : List (List Int)} : D.eqv (dLL a) (dLL b) = decide (a = b) := by
  rw [eqv_lst]; exact eqvL_map (fun _ _ => eqv_dI) a b
theorem eqv_lst_nil {a : List D} : D.eqv (.lst a) (.lst []) = a.isEmpty := by
  rw [eqv_lst]
  cases a with
  | nil => exact eqvL_nil
  | cons => exact eqvL_cn
theorem eqv_tup_nil {a : List D} : D.eqv (.tup a) (.tup []) = a.isEmpty := by
  rw [eqv_tup]
  cases a with
  | nil => exact eqvL_nil
  | cons => exact eqvL_cn
theorem rd_eqD {a b : D} {n m : Nat} (ha : D.ok n a = true) (hb : D.ok m b = true) (hn : n ≤ 64 := by decide) (hm : m ≤ 64 := by decide) : RD2 W (rEqD K) a b (.bl (D.eqv a b)) := fun c G H v1 v2 g j r1 r2 Q q =>
  ⟨_, _, r1.dp g ha, r2.dp g hb, shaped_of_ok ha hn, shaped_of_ok hb hm, q.here g j (.bl _)⟩
theorem rd_neD {a b : D} {n m : Nat} (ha : D.ok n a = true) (hb : D.ok m b = true) (hn : n ≤ 64 := by decide) (hm : m ≤ 64 := by decide) : RD2 W (rNeD K) a b (.bl (!D.eqv a b)) := fun c G H v1 v2 g j r1 r2 Q q =>
  ⟨_, _, r1.dp g ha, r2.dp g hb, shaped_of_ok ha hn, shaped_of_ok hb hm, q.here g j (.bl _)⟩
theorem rd_eqI {i j : Int} : RD2 W (rEqD K) (.int i) (.int j) (.bl (decide (i = j))) := by
  have h := rd_eqD (W := W) (K := K) (a := .int i) (b := .int j) (n := 0) (m := 0) rfl rfl
  rw [eqv_int] at h
  exact h
theorem rd_neI {i j : Int} : RD2 W (rNeD K) (.int i) (.int j) (.bl (!decide (i = j))) := by
  have h := rd_neD (W := W) (K := K) (a := .int i) (b := .int j) (n := 0) (m := 0) rfl rfl
  rw [eqv_int] at h
  exact h
/-- x in xs, any plain data -/
theorem rd_inD {x : D} {xs : List D} {n m : Nat} (ha : D.ok n x = true) (hb : D.ok m (.lst xs) = true) (hn : n ≤ 64 := by decide) (hm : m ≤ 64 := by decide) : RD2 W (rInD K) x (.lst xs) (.bl ((pyL xs).any fun z => PyData.eqv z x.py)) := fun c G H v1 v2 g j r1 r2 Q q => by
  have h2 := r2.dp (K := K) g hb
  have h3 := shaped_of_ok hb hm
  rw [D.py] at h2 h3
  exact ⟨_, _, r1.dp g ha, h2, shaped_of_ok ha hn, h3, q.here g j (.bl _)⟩
theorem any_pyL {x : PyData} : ∀ {xs : List D}, (pyL xs).any (fun z => PyData.eqv z x) = xs.any fun z => PyData.eqv z.py x
  | [] => rfl
  | d :: ds => by rw [pyL, List.any_cons, List.any_cons, any_pyL]

/-! ### ints -/
theorem rd_add {i j : Int} : RD2 W (rI0 fun i j => .int (i + j)) (.int i) (.int j) (.int (i + j)) := rd_I0 fun _ => .int _
theorem rd_sub {i j : Int} : RD2 W (rI0 fun i j => .int (i - j)) (.int i) (.int j) (.int (i - j)) := rd_I0 fun _ => .int _
theorem rd_lt {i j : Int} : RD2 W (rI0 fun i j => .bl (decide (i < j))) (.int i) (.int j) (.bl (decide (i < j))) := rd_I0 fun _ => .bl _
theorem rd_le {i j : Int} : RD2 W (rI0 fun i j => .bl (decide (i ≤ j))) (.int i) (.int j) (.bl (decide (i ≤ j))) := rd_I0 fun _ => .bl _
theorem rd_gt {i j : Int} : RD2 W (rI0 fun i j => .bl (decide (j < i))) (.int i) (.int j) (.bl (decide (j < i))) := rd_I0 fun _ => .bl _
theorem rd_ge {i j : Int} : RD2 W (rI0 fun i j => .bl (decide (j ≤ i))) (.int i) (.int j) (.bl (decide (j ≤ i))) := rd_I0 fun _ => .bl _
theorem rd_mod {i j : Int} (h : 0 < j) : RD2 W (rI (fun _ j => 0 < j) fun i j => .int (i % j)) (.int i) (.int j) (.int (i % j)) := rd_I h fun _ => .int _
theorem rd1_neg {i : Int} : RD1 W (rU fun i => .int (-i)) (.int i) (.int (-i)) := fun c G H v1 g j r1 Q q => by
  cases r1
  exact ⟨i, rfl, q.here g j (.int _)⟩
theorem rd_isN {d : D} (hd : ∀ v, d ≠ .raw v) : RD2 W (fun x y H Q => y = .non ∧ Q (.bl (decide (x = .non))) H) d .non (.bl (match d with | .non => true | _ => false)) := fun c G H v1 v2 g j r1 r2 Q q => by
  cases r2
  refine ⟨rfl, ?_⟩
  cases r1 with
  | non => exact q.here g j (.bl _)
  | raw => exact absurd rfl (hd _)
  | _ => exact q.here g j (.bl false)
theorem rd_notN {d : D} (hd : ∀ v, d ≠ .raw v) : RD2 W (fun x y H Q => y = .non ∧ Q (.bl (!decide (x = .non))) H) d .non (.bl (match d with | .non => false | _ => true)) := fun c G H v1 v2 g j r1 r2 Q q => by
  cases r2
  refine ⟨rfl, ?_⟩
  cases r1 with
  | non => exact q.here g j (.bl _)
  | raw => exact absurd rfl (hd _)
  | _ => exact q.here g j (.bl true)
theorem rd_isB {a b : Bool} : RD2 W rIsB (.bl a) (.bl b) (.bl (decide (a = b))) := fun c G H v1 v2 g j r1 r2 Q q => by
  cases r1; cases r2
  exact ⟨a, b, rfl, rfl, q.here g j (.bl _)⟩
theorem rd_notB {a b : Bool} : RD2 W rNotB (.bl a) (.bl b) (.bl (!decide (a = b))) := fun c G H v1 v2 g j r1 r2 Q q => by
  cases r1; cases r2
  exact ⟨a, b, rfl, rfl, q.here g j (.bl _)⟩

/-! ### lists and tuples -/
theorem rd_cat {a b : List D} (hz : a.length + b.length ≤ 100000) : RD2 W rCat (.lst a) (.lst b) (.lst (a ++ b)) := fun c G H v1 v2 g j r1 r2 Q q => by
  cases r1 with
  | lst h1 l1 =>
    cases r2 with
    | lst h2 l2 =>
      refine ⟨_, _, _, _, rfl, rfl, g.same _ _ h1, g.same _ _ h2, ?_, fun p hp => q.newL g j hp (l1.app l2)⟩
      rw [l1.len, l2.len]
      exact Nat.le_trans hz (by decide)
theorem rd_catA {a b : List D} (hz : a.length + b.length ≤ 100000) : RD2 W (rCatA K) (.tup a) (.tup b) (.tup (a ++ b)) := fun c G H v1 v2 g j r1 r2 Q q => by
  have r1' := r1
  have r2' := r2
  cases r1 with
  | @tup _ xs _ h1 l1 =>
    cases r2 with
    | @tup _ ys _ h2 l2 =>
      refine ⟨_, _, _, _, rfl, rfl, sqT_of g h1, sqT_of g h2, ?_, fun e => ?_, fun _ e => ?_, fun _ _ p hp => q.newT g j hp (l1.app l2)⟩
      · rw [l1.len, l2.len]
        exact Nat.le_trans hz (by decide)
      · have e2 : a = [] := List.length_eq_zero_iff.mp (by rw [← l1.len, e]; rfl)
        subst e2
        exact q.here g j r2'
      · have e2 : b = [] := List.length_eq_zero_iff.mp (by rw [← l2.len, e]; rfl)
        subst e2
        rw [List.append_nil] at q
        exact q.here g j r1'
theorem flat_ints (ns : List Int) : (ns.map V.int).all flatV = true := by
  rw [List.all_eq_true]
  intro x hx
  obtain ⟨i, _, rfl⟩ := List.mem_map.mp hx
  rfl
theorem inV_ints {i : Int} : ∀ ns : List Int, inV (.int i) (ns.map V.int) = decide (i ∈ ns)
  | [] => by simp [inV]
  | n :: ns => by
    have e := inV_ints (i := i) ns
    unfold inV at e ⊢
    rw [List.map_cons, List.any_cons, e]
    show ((n == i) || decide (i ∈ ns)) = decide (i ∈ n :: ns)
    rw [Bool.eq_iff_iff]
    simp only [Bool.or_eq_true, beq_iff_eq, decide_eq_true_eq, List.mem_cons]
    exact ⟨fun h => h.elim (fun e => .inl e.symm) .inr, fun h => h.elim (fun e => .inl e.symm) .inr⟩
theorem rd_inT {neg : Bool} {i : Int} {ns : List Int} : RD2 W (rIn K neg) (.int i) (dI ns) (.bl (if neg then !decide (i ∈ ns) else decide (i ∈ ns))) := fun c G H v1 v2 g j r1 r2 Q q => by
  cases r1
  cases r2 with
  | tup h2 l2 =>
    obtain rfl := l2.ints
    refine ⟨_, _, rfl, .inr (sqT_of g h2), rfl, flat_ints ns, ?_⟩
    rw [inV_ints]
    exact q.here g j (.bl _)
theorem rd_inL {neg : Bool} {i : Int} {ns : List Int} : RD2 W (rIn K neg) (.int i) (dLI ns) (.bl (if neg then !decide (i ∈ ns) else decide (i ∈ ns))) := fun c G H v1 v2 g j r1 r2 Q q => by
  cases r1
  cases r2 with
  | lst h2 l2 =>
    obtain rfl := l2.ints
    refine ⟨_, _, rfl, .inl (sqL_of g h2), rfl, flat_ints ns, ?_⟩
    rw [inV_ints]
    exact q.here g j (.bl _)
theorem rd_ixL {ds : List D} {i : Nat} {d : D} (h : ds[i]? = some d) : RD2 W (rIx K) (.lst ds) (.int (i : Nat)) d := fun c G H v1 v2 g j r1 r2 Q q => by
  cases r2
  cases r1 with
  | lst h1 l1 =>
    obtain ⟨v, e, r⟩ := l1.get h
    exact .inl ⟨_, _, _, v, rfl, rfl, sqL_of g h1, atI_nat e, q.here g j r⟩
theorem rd_ixT {ds : List D} {i : Nat} {d : D} (h : ds[i]? = some d) : RD2 W (rIx K) (.tup ds) (.int (i : Nat)) d := fun c G H v1 v2 g j r1 r2 Q q => by
  cases r2
  cases r1 with
  | tup h1 l1 =>
    obtain ⟨v, e, r⟩ := l1.get h
    exact .inr (.inl ⟨_, _, _, v, rfl, rfl, sqT_of g h1, atI_nat e, q.here g j r⟩)
theorem rd_ixLast {ds : List D} {d : D} : RD2 W (rIx K) (.tup (ds ++ [d])) (.int (-1)) d := fun c G H v1 v2 g j r1 r2 Q q => by
  cases r2
  cases r1 with
  | tup h1 l1 =>
    obtain ⟨v, e, r⟩ := l1.get (i := ds.length) (d := d) (by simp)
    have hl := l1.len
    rw [List.length_append, List.length_singleton] at hl
    refine .inr (.inl ⟨_, _, _, v, rfl, rfl, sqT_of g h1, ?_, q.here g j r⟩)
    unfold atI ixN
    rw [hl, if_neg (by decide), if_pos (by omega), Option.bind_some, show ((-1 : Int) + ((ds.length + 1 : Nat) : Int)).toNat = ds.length by omega]
    exact e
theorem rdl_len {ds : List D} : RDL W (fun xs H Q => ∃ p ys, xs = [.ref p] ∧ (SqL K H p ys ∨ SqT K H p ys) ∧ Q (.int ys.length) H) [.lst ds] (.int ds.length) := fun c G H vs g j r Q q => by
  cases r with
  | cons r1 r2 =>
    cases r2
    cases r1 with
    | lst h1 l1 => exact ⟨_, _, rfl, .inl (sqL_of g h1), by rw [l1.len]; exact q.here g j (.int _)⟩
theorem rdl_lenT {ds : List D} : RDL W (fun xs H Q => ∃ p ys, xs = [.ref p] ∧ (SqL K H p ys ∨ SqT K H p ys) ∧ Q (.int ys.length) H) [.tup ds] (.int ds.length) := fun c G H vs g j r Q q => by
  cases r with
  | cons r1 r2 =>
    cases r2
    cases r1 with
    | tup h1 l1 => exact ⟨_, _, rfl, .inr (sqT_of g h1), by rw [l1.len]; exact q.here g j (.int _)⟩
theorem rdl_any {bs : List Bool} : RDL W (rAny K) [.lst (bs.map .bl)] (.bl (bs.any id)) := fun c G H vs g j r Q q => by
  cases r with
  | cons r1 r2 =>
    cases r2
    cases r1 with
    | lst h1 l1 =>
      obtain rfl := l1.bls
      exact ⟨_, _, rfl, sqL_of g h1, q.here g j (.bl _)⟩
theorem rdl_all {bs : List Bool} : RDL W (rAll K) [.lst (bs.map .bl)] (.bl (bs.all id)) := fun c G H vs g j r Q q => by
  cases r with
  | cons r1 r2 =>
    cases r2
    cases r1 with
    | lst h1 l1 =>
      obtain rfl := l1.bls
      exact ⟨_, _, rfl, sqL_of g h1, q.here g j (.bl _)⟩
theorem rdl_max2 {a b : Int} : RDL W (fun xs H Q => ∃ i j, xs = [.int i, .int j] ∧ Q (.int (if j > i then j else i)) H) [.int a, .int b] (.int (max a b)) := fun c G H vs g j r Q q => by
  cases r with
  | cons r1 r2 =>
    cases r2 with
    | cons r2 r3 =>
      cases r1; cases r2; cases r3
      refine ⟨a, b, rfl, ?_⟩
      have e : (if b > a then b else a) = max a b := by split <;> omega
      rw [e]
      exact q.here g j (.int _)
theorem rdl_min2 {a b : Int} : RDL W (fun xs H Q => ∃ i j, xs = [.int i, .int j] ∧ Q (.int (if j < i then j else i)) H) [.int a, .int b] (.int (min a b)) := fun c G H vs g j r Q q => by
  cases r with
  | cons r1 r2 =>
    cases r2 with
    | cons r2 r3 =>
      cases r1; cases r2; cases r3
      refine ⟨a, b, rfl, ?_⟩
      have e : (if b < a then b else a) = min a b := by split <;> omega
      rw [e]
      exact q.here g j (.int _)
theorem rdl_int {a : Int} : RDL W (fun xs H Q => (∃ i, xs = [.int i] ∧ Q (.int i) H) ∨ ∃ k, xs = [.bl k] ∧ Q (.int (if k then 1 else 0)) H) [.int a] (.int a) := fun c G H vs g j r Q q => by
  cases r with
  | cons r1 r2 =>
    cases r1; cases r2
    exact .inl ⟨a, rfl, q.here g j (.int _)⟩
theorem rdl_tupL {ds : List D} : RDL W (fun xs H Q => ∃ p ys, xs = [.ref p] ∧ ((SqL K H p ys ∧ ∀ l, H l = none → Q (.ref l) (upd H l (.tup ys))) ∨ (SqT K H p ys ∧ Q (.ref p) H))) [.lst ds] (.tup ds) := fun c G H vs g j r Q q => by
  cases r with
  | cons r1 r2 =>
    cases r2
    cases r1 with
    | lst h1 l1 => exact ⟨_, _, rfl, .inl ⟨sqL_of g h1, fun l hl => q.newT g j hl l1⟩⟩
theorem rdl_listL {ds : List D} : RDL W (fun xs H Q => ∃ p ys, xs = [.ref p] ∧ (SqL K H p ys ∨ SqT K H p ys) ∧ ∀ l, H l = none → Q (.ref l) (upd H l (.lst ys))) [.lst ds] (.lst ds) := fun c G H vs g j r Q q => by
  cases r with
  | cons r1 r2 =>
    cases r2
    cases r1 with
    | lst h1 l1 => exact ⟨_, _, rfl, .inl (sqL_of g h1), fun l hl => q.newL g j hl l1⟩
theorem rdl_listT {ds : List D} : RDL W (fun xs H Q => ∃ p ys, xs = [.ref p] ∧ (SqL K H p ys ∨ SqT K H p ys) ∧ ∀ l, H l = none → Q (.ref l) (upd H l (.lst ys))) [.tup ds] (.lst ds) := fun c G H vs g j r Q q => by
  cases r with
  | cons r1 r2 =>
    cases r2
    cases r1 with
    | tup h1 l1 => exact ⟨_, _, rfl, .inr (sqT_of g h1), fun l hl => q.newL g j hl l1⟩
/-- range(a, b) as a list of data -/
def rgD (a b : Int) : List Int := (List.range (b - a).toNat).map fun i => a + (i : Nat)
theorem rgV_eq {a b : Int} : rgV a b = (rgD a b).map V.int := by unfold rgV rgD; rw [List.map_map]; rfl
theorem ed_listRg1 {ta : TE} {env : Env'} {b : Int} (h : ED W ta env (.int b)) (hb : 0 ≤ b ∧ b ≤ 10000) : ED W (tLstRg (tRg1 ta)) env (dLI (rgD 0 b)) := fun c G0 H0 σ G H A Q q =>
  h c G0 H0 σ G H A _ fun v G1 H1 s1 g1 j1 r1 => by
    cases r1
    refine ⟨b, rfl, .of_le (Int.le_refl 0) (by omega) (by omega) hb.1, fun p hp => ?_⟩
    rw [rgV_eq]
    exact q (.ref p) _ _ (s1.trans (stp_new g1 hp)) (gok_new g1 j1 hp (noTb_lst _)) (J_new j1 hp) (.lst upd_same (RpL.of_ints _))
theorem ed_tupRg1 {ta : TE} {env : Env'} {b : Int} (h : ED W ta env (.int b)) (hb : 0 ≤ b ∧ b ≤ 10000) : ED W (tTupRg (tRg1 ta)) env (dI (rgD 0 b)) := fun c G0 H0 σ G H A Q q =>
  h c G0 H0 σ G H A _ fun v G1 H1 s1 g1 j1 r1 => by
    cases r1
    refine ⟨b, rfl, .of_le (Int.le_refl 0) (by omega) (by omega) hb.1, fun p hp => ?_⟩
    rw [rgV_eq]
    exact q (.ref p) _ _ (s1.trans (stp_new g1 hp)) (gok_new g1 j1 hp (noTb_tup _)) (J_new j1 hp) (.tup upd_same (RpL.of_ints _))
theorem ed_listRg2 {ta tb : TE} {env : Env'} {a b : Int} (h : ED W ta env (.int a)) (h' : ED W tb env (.int b)) (hb : 0 ≤ a ∧ a ≤ 10000 ∧ 0 ≤ b ∧ b ≤ 10000) : ED W (tLstRg (tRg2 ta tb)) env (dLI (rgD a b)) := fun c G0 H0 σ G H A Q q =>
  h c G0 H0 σ G H A _ fun v G1 H1 s1 g1 j1 r1 => h' c G0 H0 σ G1 H1 (A.step s1 g1 j1) _ fun v2 G2 H2 s2 g2 j2 r2 => by
    cases r1; cases r2
    refine ⟨a, b, rfl, rfl, .of_le (by omega) (by omega) (by omega) (by omega), fun p hp => ?_⟩
    rw [rgV_eq]
    exact q (.ref p) _ _ ((s1.trans s2).trans (stp_new g2 hp)) (gok_new g2 j2 hp (noTb_lst _)) (J_new j2 hp) (.lst upd_same (RpL.of_ints _))
theorem ed_tupRg2 {ta tb : TE} {env : Env'} {a b : Int} (h : ED W ta env (.int a)) (h' : ED W tb env (.int b)) (hb : 0 ≤ a ∧ a ≤ 10000 ∧ 0 ≤ b ∧ b ≤ 10000) : ED W (tTupRg (tRg2 ta tb)) env (dI (rgD a b)) := fun c G0 H0 σ G H A Q q =>
  h c G0 H0 σ G H A _ fun v G1 H1 s1 g1 j1 r1 => h' c G0 H0 σ G1 H1 (A.step s1 g1 j1) _ fun v2 G2 H2 s2 g2 j2 r2 => by
    cases r1; cases r2
    refine ⟨a, b, rfl, rfl, .of_le (by omega) (by omega) (by omega) (by omega), fun p hp => ?_⟩
    rw [rgV_eq]
    exact q (.ref p) _ _ ((s1.trans s2).trans (stp_new g2 hp)) (gok_new g2 j2 hp (noTb_tup _)) (J_new j2 hp) (.tup upd_same (RpL.of_ints _))
/-- isinstance(x, C) -/
inductive TyD : D → String → Prop
  | non : TyD .non "NoneType"
  | bl (b : Bool) : TyD (.bl b) "bool"
  | int (i : Int) : TyD (.int i) "int"
  | str (s : Str) : TyD (.str s) "str"
  | tup (ds : List D) : TyD (.tup ds) "tuple"
  | lst (ds : List D) : TyD (.lst ds) "list"
  | dic (kvs : List (Key × D)) : TyD (.dic kvs) "dict"
theorem TyD.tyx {d : D} {t : String} (h : TyD d t) (g : GOk W G H) {v : V} (r : Rp G v d) : TyX K H v (.type t) := by
  cases h with
  | non => cases r; exact .base .non
  | bl b => cases r; exact .base (.bl b)
  | int b => cases r; exact .base (.int b)
  | str b => cases r; exact .base (.str b)
  | tup ds => cases r with | tup h1 l1 => exact .base (.tup (g.same _ _ h1))
  | lst ds => cases r with | lst h1 l1 => exact .base (.lst (g.same _ _ h1))
  | dic ds => cases r with | dic h1 l1 => exact .fDict (g.same _ _ h1)
theorem rdl_isi {d : D} {t C : String} {b : Bool} (h : TyD d t) (hk : PySem.W.kitOne K (.type t) (.type C) = some b) : RDL W (rIsi K) [d, .raw (.ty C)] (.bl b) := fun c G H vs g j r Q q => by
  cases r with
  | cons r1 r2 =>
    cases r2 with
    | cons r2 r3 =>
      cases r3; cases r2
      exact ⟨_, _, _, _, b, rfl, .ty C, h.tyx g r1, hk, q.here g j (.bl _)⟩
theorem rdl_isiT {d : D} {t : String} {Cs : List String} {b : Bool} (h : TyD d t) (hk : PySem.W.kitAny K (.type t) (Cs.map Value.type) = some b) : RDL W (rIsiT K) [d, .tup (Cs.map fun C => .raw (.ty C))] (.bl b) := fun c G H vs g j r Q q => by
  cases r with
  | cons r1 r2 =>
    cases r2 with
    | cons r2 r3 =>
      cases r3
      cases r2 with
      | tup h2 l2 =>
        have e : ∀ (Cs : List String) xs, RpL G xs (Cs.map fun C => D.raw (.ty C)) → Paired ClsV xs (Cs.map Value.type) := by
          intro Cs
          induction Cs with
          | nil => intro xs h; cases h; exact .nil
          | cons C r ih =>
            intro xs h
            cases h with
            | cons h1 h2 =>
              cases h1
              exact .cons (.ty C) (ih _ h2)
        exact ⟨_, _, _, _, _, b, rfl, g.same _ _ h2, e Cs _ l2, h.tyx g r1, hk, q.here g j (.bl _)⟩
/-- slices -/
def EO (W : Wld T) (to : TO) (env : Env') (o : Option Int) : Prop := ∀ c G0 H0 σ G H, At W G0 H0 c G H σ env → ∀ Q : Option Int → Hp → Prop, (∀ G2 H2, Stp W G H G2 H2 → GOk W G2 H2 → W.J c H2 → Q o H2) → to σ H Q
theorem eo_none {env : Env'} : EO W tNoPart env none := fun c G0 H0 σ G H A Q q => q G H Stp.refl A.gok A.j
theorem eo_some {te : TE} {env : Env'} {i : Int} (h : ED W te env (.int i)) : EO W (tPart te) env (some i) := fun c G0 H0 σ G H A Q q => h c G0 H0 σ G H A _ fun v G1 H1 s1 g1 j1 r1 => by
  cases r1
  exact ⟨i, rfl, q G1 H1 s1 g1 j1⟩
def cutD (xs : List D) (lo hi : Option Int) : List D := (xs.drop (HT.sIx xs.length 0 lo)).take (HT.sIx xs.length xs.length hi - HT.sIx xs.length 0 lo)
theorem ed_slL {te : TE} {tl th : TO} {env : Env'} {ds : List D} {lo hi : Option Int} (h : ED W te env (.lst ds)) (hl : EO W tl env lo) (hh : EO W th env hi) : ED W (tSl (rSlL K) te tl th) env (.lst (cutD ds lo hi)) := fun c G0 H0 σ G H A Q q =>
  h c G0 H0 σ G H A _ fun v G1 H1 s1 g1 j1 r1 => hl c G0 H0 σ G1 H1 (A.step s1 g1 j1) _ fun G2 H2 s2 g2 j2 => hh c G0 H0 σ G2 H2 ((A.step s1 g1 j1).step s2 g2 j2) _ fun G3 H3 s3 g3 j3 => by
    cases r1 with
    | @lst a xs _ h1 l1 =>
      have hG := s3.gg _ _ (s2.gg _ _ h1)
      have l3 := (l1.mono s2.gg).mono s3.gg
      refine ⟨_, xs, rfl, sqL_of g3 hG, fun p hp => ?_⟩
      have e : RpL G3 (cutV xs lo hi) (cutD ds lo hi) := by
        unfold cutV cutD
        rw [l3.len]
        exact RpL.take _ (RpL.drop _ l3)
      exact q (.ref p) _ _ (((s1.trans s2).trans s3).trans (stp_new g3 hp)) (gok_new g3 j3 hp (noTb_lst _)) (J_new j3 hp) (.lst upd_same (e.mono (same_new (g3.none hp) _)))
theorem ed_slT {te : TE} {tl th : TO} {env : Env'} {ds : List D} {lo hi : Option Int} (h : ED W te env (.tup ds)) (hl : EO W tl env lo) (hh : EO W th env hi) : ED W (tSl (rSlA K) te tl th) env (.tup (cutD ds lo hi)) := fun c G0 H0 σ G H A Q q =>
  h c G0 H0 σ G H A _ fun v G1 H1 s1 g1 j1 r1 => hl c G0 H0 σ G1 H1 (A.step s1 g1 j1) _ fun G2 H2 s2 g2 j2 => hh c G0 H0 σ G2 H2 ((A.step s1 g1 j1).step s2 g2 j2) _ fun G3 H3 s3 g3 j3 => by
    have r3 := (r1.mono s2.gg).mono s3.gg
    cases r1 with
    | @tup a xs _ h1 l1 =>
      have hG := s3.gg _ _ (s2.gg _ _ h1)
      have l3 := (l1.mono s2.gg).mono s3.gg
      have e : RpL G3 (cutV xs lo hi) (cutD ds lo hi) := by
        unfold cutV cutD
        rw [l3.len]
        exact RpL.take _ (RpL.drop _ l3)
      refine ⟨_, xs, rfl, sqT_of g3 hG, fun w => ?_, fun _ p hp => ?_⟩
      · have ew : cutD ds lo hi = ds := by
          unfold cutD
          rw [l3.len] at w
          rw [w.1, w.2, List.drop_zero, Nat.sub_zero, List.take_length]
        rw [ew] at q
        exact q _ _ _ ((s1.trans s2).trans s3) g3 j3 r3
      · exact q (.ref p) _ _ (((s1.trans s2).trans s3).trans (stp_new g3 hp)) (gok_new g3 j3 hp (noTb_tup _)) (J_new j3 hp) (.tup upd_same (e.mono (same_new (g3.none hp) _)))
/-- a < b < c -/
theorem et_chain {r r' : R2} {ta tb tc : TE} {env : Env'} {d1 d2 d3 : D} {a b : Bool} (h1 : ED W ta env d1) (h2 : ED W tb env d2) (h3 : a = true → ED W tc env d3) (hr : RD2 W r d1 d2 (.bl a)) (hr' : a = true → RD2 W r' d2 d3 (.bl b)) : ED W (tChain r r' ta tb tc) env (.bl (a && b)) := fun c G0 H0 σ G H A Q q =>
  h1 c G0 H0 σ G H A _ fun v1 G1 H1 s1 g1 j1 r1 => h2 c G0 H0 σ G1 H1 (A.step s1 g1 j1) _ fun v2 G2 H2 s2 g2 j2 r2 =>
    hr c G2 H2 v1 v2 g2 j2 (r1.mono s2.gg) r2 _ fun v G3 H3 s3 g3 j3 r3 => by
      cases r3
      refine ⟨a, rfl, ?_⟩
      cases a with
      | false => exact q _ G3 H3 ((s1.trans s2).trans s3) g3 j3 (.bl _)
      | true =>
        refine h3 rfl c G0 H0 σ G3 H3 (((A.step s1 g1 j1).step s2 g2 j2).step s3 g3 j3) _ fun v3 G4 H4 s4 g4 j4 r4 => ?_
        exact hr' rfl c G4 H4 v2 v3 g4 j4 ((r2.mono s3.gg).mono s4.gg) r4 Q fun v G5 H5 s5 g5 j5 r5 => q v G5 H5 ((((s1.trans s2).trans s3).trans s4).trans s5) g5 j5 r5

/-! ### defs -/
/-- a def that makes data of data and leaves all as it was -/
def SpD (T : List (Addr × Str)) (f : List D → D → Prop) : Sp := fun vs H Q _ => ∃ G ds d, GOk (W0 T) G H ∧ LamX.Tabs T H ∧ RpL G vs ds ∧ f ds d ∧
  ∀ v G2 H2, Stp (W0 T) G H G2 H2 → GOk (W0 T) G2 H2 → LamX.Tabs T H2 → Rp G2 v d → Q v H2
def CAP : Nat := 2 ^ 40
/-- a def that may draw, at most k times -/
def SpS (W : Wld T) (k : Nat) (f : List D → (D → Prop) → Prop) : Sp := fun vs H Q _ => ∃ G c ds P, GOk W G H ∧ W.J c H ∧ c + k ≤ CAP ∧ RpL G vs ds ∧ f ds P ∧
  ∀ v d G2 H2, Stp W G H G2 H2 → GOk W G2 H2 → W.J (c + k) H2 → Rp G2 v d → P d → Q v H2
theorem ed_call {f : List D → D → Prop} {E : XK} {ta : TA} {env : Env'} {ds : List D} {d : D} (h : EA W ta env ds) (hf : f ds d) : ED W (tCall (SpD T f) [] E ta) env d := fun c G0 H0 σ G H A Q q =>
  h c G0 H0 σ G H A _ fun vs G1 H1 s1 g1 j1 r1 => by
    rw [List.append_nil]
    exact ⟨G1, ds, d, g1.drop, W.tabs j1, r1, hf, fun v G2 H2 s g t r => q v G2 H2 (s1.trans s.lift) (g1.lift j1 s g) (J_lift j1 s t) r⟩
theorem en_callD {f : List D → D → Prop} {E : XK} {ta : TA} {env : Env'} {Pa : List D → Prop} {P : D → Prop} (h : EAN W ta env c k Pa) (hf : ∀ ds, Pa ds → ∃ d, f ds d ∧ P d) : EN W (tCall (SpD T f) [] E ta) env c k P := fun G0 H0 σ G H A Q q =>
  h G0 H0 σ G H A _ fun vs ds G1 H1 s1 g1 j1 r1 p => by
    obtain ⟨d, hd, pd⟩ := hf ds p
    rw [List.append_nil]
    exact ⟨G1, ds, d, g1.drop, W.tabs j1, r1, hd, fun v G2 H2 s g t r => q v d G2 H2 (s1.trans s.lift) (g1.lift j1 s g) (J_lift j1 s t) r pd⟩
theorem en_call {f : List D → (D → Prop) → Prop} {E : XK} {ta : TA} {env : Env'} {n : Nat} {Pa : List D → Prop} {P : D → Prop} (h : EAN W ta env c n Pa) (hf : ∀ ds, Pa ds → f ds P) (hc : c + n + k ≤ CAP) : EN W (tCall (SpS W k f) [] E ta) env c (n + k) P := fun G0 H0 σ G H A Q q =>
  h G0 H0 σ G H A _ fun vs ds G1 H1 s1 g1 j1 r1 p => by
    rw [List.append_nil]
    exact ⟨G1, c + n, ds, P, g1, j1, hc, r1, hf ds p, fun v d G2 H2 s g t r pd => q v d G2 H2 (s1.trans s) g (by rw [← Nat.add_assoc]; exact t) r pd⟩
def env0 (ds : List D) (n : Nat) : Env' := ds.map .dat ++ List.replicate n .emp
theorem env0_get {ds : List D} {n i : Nat} {d : D} (h : (env0 ds n)[i]? = some (.dat d)) : ds[i]? = some d := by
  unfold env0 at h
  by_cases hi : i < ds.length
  · rw [List.getElem?_append_left (by simpa using hi), List.getElem?_map] at h
    cases q : ds[i]? with
    | none => rw [q] at h; cases h
    | some e => rw [q] at h; cases h; rfl
  · rw [List.getElem?_append_right (by simpa using hi), List.getElem?_replicate] at h
    split at h <;> cases h
theorem env0_mu {ds : List D} {n i : Nat} {s : Slot} (h : (env0 ds n)[i]? = some s) : s.isM = false := by
  unfold env0 at h
  by_cases hi : i < ds.length
  · rw [List.getElem?_append_left (by simpa using hi), List.getElem?_map] at h
    cases q : ds[i]? with
    | none => rw [q] at h; cases h
    | some e => rw [q] at h; cases h; rfl
  · rw [List.getElem?_append_right (by simpa using hi), List.getElem?_replicate] at h
    split at h <;> cases h
    rfl
theorem at_start {N : List Str} {vs : List V} {ds : List D} (g : GOk W G H) (j : W.J c H) (r : RpL G vs ds) (hn : ds.length ≤ N.length) : At W (G, G) H c G H (L2.start N vs) (env0 ds (N.length - ds.length)) := by
  have hl := r.len
  refine ⟨Stp.refl, fun _ _ h => h, g, j, ?_, fun i d h => ?_, fun i s h hs => (by rw [env0_mu h] at hs; cases hs), fun i _ s _ _ _ h _ hs => (by rw [env0_mu h] at hs; cases hs)⟩
  · unfold L2.start env0
    rw [List.length_append, List.length_append, List.length_map, List.length_map, List.length_replicate, List.length_replicate, hl]
  · have hd := env0_get h
    obtain ⟨v, e, rv⟩ := r.get hd
    have hi : i < vs.length := (List.getElem?_eq_some_iff.mp e).1
    refine ⟨v, ?_, rv⟩
    unfold L2.start
    rw [List.getElem?_append_left (by simpa using hi), List.getElem?_map, e]
    rfl
/-- a body that keeps its promise -/
theorem body_D {f : List D → D → Prop} {t : TS} {N : List Str} {vs : List V} {Q : VK} {E : XK} (h : SpD T f vs H Q E) (hn : vs.length ≤ N.length) (hb : ∀ ds d, f ds d → Tr (W0 T) t (env0 ds (N.length - ds.length)) 0 ⟨fun _ _ => d = .non, fun r _ => r = d, fun _ _ => False, fun _ _ => False, fun _ _ _ => False, fun _ _ _ => False⟩) :
    t { nx := fun _ H' => Q .non H', rt := Q } (L2.start N vs) H := by
  obtain ⟨G, ds, d, g, tb, r, hf, q⟩ := h
  refine hb ds d hf (G, G) H _ G H (at_start (W := W0 T) (c := 0) g tb r (by rw [← r.len]; exact hn)) _ ⟨fun σ2 e2 c2 G2 H2 A2 e => ?_, fun v d2 c2 G2 H2 s g j r e => ?_, fun _ _ _ _ _ _ z => z.elim, fun _ _ _ _ _ _ z => z.elim, fun _ _ _ _ _ _ _ _ _ _ z => z.elim⟩
  · exact q .non G2 H2 A2.st A2.gok A2.j (by rw [e]; exact .non)
  · subst e
    exact q v G2 H2 s g j r
theorem body_S {f : List D → (D → Prop) → Prop} {t : TS} {N : List Str} {vs : List V} {Q : VK} {E : XK} (h : SpS W k f vs H Q E) (hn : vs.length ≤ N.length) (hb : ∀ ds P c, f ds P → c + k ≤ CAP → Tr W t (env0 ds (N.length - ds.length)) c ⟨fun _ c2 => P .non ∧ c2 ≤ c + k, fun r c2 => P r ∧ c2 ≤ c + k, fun _ _ => False, fun _ _ => False, fun _ _ _ => False, fun _ _ _ => False⟩) :
    t { nx := fun _ H' => Q .non H', rt := Q } (L2.start N vs) H := by
  obtain ⟨G, c, ds, P, g, j, hc, r, hf, q⟩ := h
  refine hb ds P c hf hc (G, G) H _ G H (at_start g j r (by rw [← r.len]; exact hn)) _ ⟨fun σ2 e2 c2 G2 H2 A2 e => ?_, fun v d2 c2 G2 H2 s g j r e => ?_, fun _ _ _ _ _ _ z => z.elim, fun _ _ _ _ _ _ z => z.elim, fun _ _ _ _ _ _ _ _ _ _ z => z.elim⟩
  · exact q .non .non G2 H2 A2.st A2.gok (W.mono e.2 A2.j) .non e.1
  · exact q v d2 G2 H2 s g (W.mono e.2 j) r e.1
/-- while -/
theorem tr_while {tt : TT} {tb : TS} {env : Env'} {po : Po} (Iv : Nat → Env' → Nat → Prop) (m0 : Nat) (h0 : Iv m0 env c)
    (hs : ∀ m e1 c1, Iv m e1 c1 → ∃ b, ET W tt e1 b ∧ (b = true → Tr W tb e1 c1 { po with nx := fun e2 c2 => ∃ m', m' < m ∧ Iv m' e2 c2, ct := fun e2 c2 => ∃ m', m' < m ∧ Iv m' e2 c2, bk := po.nx }) ∧ (b = false → po.nx e1 c1)) : Tr W (tWhile tt tb) env c po := by
  intro G0 H0 σ G H A E F
  refine ⟨fun m σ' H' => ∃ G' e1 c1, At W G0 H0 c1 G' H' σ' e1 ∧ Iv m e1 c1, ⟨m0, G, env, c, A, h0⟩, ?_⟩
  rintro m σ' H' ⟨G', e1, c1, A', iv⟩
  obtain ⟨b, ht, h1, h2⟩ := hs m e1 c1 iv
  refine ht c1 G0 H0 σ' G' H' A' _ fun G2 H2 s2 g2 j2 => ?_
  cases b with
  | true =>
    refine (if_pos rfl).mpr ?_
    refine ⟨fun σ'' H'' => ∃ m', m' < m ∧ ∃ G' e1 c1, At W G0 H0 c1 G' H'' σ'' e1 ∧ Iv m' e1 c1, fun σ'' H'' ⟨m', h, r⟩ => ⟨m', h, r⟩, ?_⟩
    refine h1 rfl _ _ _ _ _ (A'.step s2 g2 j2) _ ⟨fun σ4 e4 c4 G4 H4 A4 ⟨m', hm, q⟩ => ⟨m', hm, G4, e4, c4, A4, q⟩, F.rt, fun σ4 e4 c4 G4 H4 A4 q => F.nx _ _ _ _ _ A4 q, fun σ4 e4 c4 G4 H4 A4 ⟨m', hm, q⟩ => ⟨m', hm, G4, e4, c4, A4, q⟩, F.xx⟩
  | false =>
    refine (if_neg Bool.false_ne_true).mpr ?_
    exact F.nx _ _ _ _ _ (A'.step s2 g2 j2) (h2 rfl)
end
end Fx

set_option Elab.async false
set_option linter.all false
set_option maxRecDepth 100000
set_option maxHeartbeats 4000000
/-! A lambda of one name as a key: min(l, key=lambda x: ..), sorted(l, key=lambda x: ..). -/
namespace Fx
open PySem PySem.Spec PyProof.Rows L2 LamX

/-- one parameter p, no other name of its own -/
structure LamS1 (sc scope : Scope) (p : Str) : Prop where
  kind : scope.kind = .function
  co : scope.isCoroutine = false
  gen : scope.isGenerator = false
  own : ∀ y ∈ scope.names, y.2 = .local → y.1 = p
  nocell : ∀ y ∈ scope.names, y.2 ≠ .cell
  par : scope.names.lookup p = some .local
  free : ∀ y ∈ scope.names, y.2 = .free → sc.names.lookup y.1 = some .cell ∨ sc.names.lookup y.1 = some .free
def lamS1B (sc scope : Scope) (p : Str) : Bool :=
  decide (scope.kind = .function) && !scope.isCoroutine && !scope.isGenerator && decide (scope.names.lookup p = some .local) && scope.names.all fun y => (!decide (y.2 = .local) || decide (y.1 = p)) && !decide (y.2 = .cell) && (!decide (y.2 = .free) || decide (sc.names.lookup y.1 = some .cell) || decide (sc.names.lookup y.1 = some .free))
theorem lamS1_by {sc scope : Scope} {p : Str} (h : lamS1B sc scope p = true) : LamS1 sc scope p := by
  unfold lamS1B at h
  simp only [Bool.and_eq_true, Bool.or_eq_true, Bool.not_eq_true', decide_eq_true_eq, decide_eq_false_iff_not, List.all_eq_true] at h
  obtain ⟨⟨⟨⟨h1, h2⟩, h3⟩, h5⟩, h4⟩ := h
  refine ⟨h1, h2, h3, fun y hy e => ?_, fun y hy => (h4 y hy).1.2, h5, fun y hy e => ?_⟩
  · exact (h4 y hy).1.1.resolve_left fun z => z e
  · rcases (h4 y hy).2 with (z | z) | z
    · exact absurd e z
    · exact .inl z
    · exact .inr z
theorem LamS1.has {X : Cx} {scope : Scope} {p : Str} (L : LamS1 X.env.scope scope p) (ok : X.Ok) : ∀ y ∈ scope.names, y.2 = .free → ∃ c, X.env.cells.lookup y.1 = some c := fun y hy e => by
  rcases L.free y hy e with k | k
  · exact ok.has _ (.inl k)
  · exact ok.has _ (.inr k)
/-- the context of the lambda's body, called at s by a built-in of X's frame -/
def lamCx1 (X : Cx) (A : Around) (s : Shared) (H : Hp) (scope : Scope) (f c' : Addr) : Cx where
  prog := X.prog
  w := X.w
  K := X.K
  mg := X.mg
  base := X.base
  A := A.deeper (lamEnv X scope s.heap.objs.size f c')
  N := X.N
  s_0 := s
  H_0 := H
  env := lamEnv X scope s.heap.objs.size f c'
  outer := X.stack
  stack := lamEnv X scope s.heap.objs.size f c' :: X.stack
  ex := []
  fn := fun _ => false
  calm := true
  pn := []
  xe := fun _ _ => False
section
variable {X : Cx} {pins : List (Addr × Obj)} {σ : L2.St} {H : Hp} {s : Shared}
theorem lam_start1 {A : Around} {scope : Scope} {p : Str} {j : Nat} {x : V} {v : Value} {f c' : Addr} {h₁ : Heap} {tk : Nat} (I : Inv X pins σ H s) (L : LamS1 X.env.scope scope p) (hN : X.N.Nodup) (hj : X.N[j]? = some p) (rv : RelV x v) (hA : A.frames = some X.stack) (hd : A.handled = none)
    (hns : h₁.Ns s.heap.objs.size fun y => ([(p, v)] : List (Str × Value)).reverse.lookup y) (kp : ∀ b o, s.heap.get? b = some o → h₁.get? b = some o) :
    Inv (lamCx1 X A s H scope f c') [] (σ.set j (some x)) H { s with heap := h₁, toks := tk } := by
  have hfree := L.has I.ok
  have cm : ∀ {y c}, (cloFrom X.env.cells scope.names []).lookup y = some c → X.env.cells.lookup y = some c := fun {y c} e => by
    rcases cloFrom_mem (PySem.mem_of_lookup e) with hm | ⟨h1, h2⟩
    · cases hm
    · obtain ⟨c1, hc⟩ := hfree _ h1 rfl
      have hc : X.env.cells.lookup y = some c1 := hc
      have e2 : c = c1 := by
        rw [h2, hc] <;> rfl
      rw [e2]
      exact hc
  have look : ∀ {y}, scope.names.lookup y = some .free → ∃ c, (cloFrom X.env.cells scope.names []).lookup y = some c := fun {y} hl => by
    have hy : (y, NameKind.free) ∈ scope.names := PySem.mem_of_lookup hl
    exact mem_lookup (cloFrom_has (cells := X.env.cells) (acc := []) hy)
  have cellK : ∀ {c : Addr} {v : Option Value}, s.heap.IsCell c v → h₁.IsCell c v := fun {c v} ⟨o, ho, hd⟩ => ⟨o, kp _ _ ho, hd⟩
  have noA : ∀ b : Addr, b ∉ (lamCx1 X A s H scope f c').ex := fun b z => absurd (show b ∈ ([] : List Addr) from z) (by simp)
  refine ⟨⟨I.ok.mod, L.kind, rfl, rfl, Nat.le_refl _, fun y z c e1 e2 => I.ok.inj y z c (cm e1) (cm e2), fun y hy => ?_, fun y c z _ => ?_, fun _ => hd, Around.frames_deeper hA, .inr ⟨rfl, rfl⟩, fun b z => absurd z (noA b), I.bs, Nat.le_trans I.ok.bsz I.sz, fun b _ _ => noA b,
      fun b z => absurd z (noA b), I.stack, I.stkFree⟩,
    rfl, I.bare, Un.kept kp, ⟨_, hns, fun i y w e1 e2 e3 => ?_⟩, fun y c e => ?_, I.hok.fresh (Nat.le_refl _), fun y c e => I.freeC y c (cm e), fun q hq => absurd (show q ∈ ([] : List (Addr × Obj)) ++ [] from hq) (by simp), I.hok.kept kp, by rw [List.length_set]; exact I.len⟩
  · have hy : scope.names.lookup y = some .cell ∨ scope.names.lookup y = some .free := hy
    rcases hy with hy | hy
    · exact absurd rfl (L.nocell _ (PySem.mem_of_lookup hy))
    · exact look hy
  · have z : false = true := z
    cases z
  · have e1 : X.N[i]? = some y := e1
    by_cases hij : i = j
    · subst hij
      rw [hj] at e1
      cases e1
      have hi : i < σ.length := by rw [I.len]; exact (List.getElem?_eq_some_iff.mp hj).1
      rw [List.getElem?_set_self hi] at e2
      cases e2
      exact ⟨v, rv, .inl ⟨L.par, by show ([(p, v)] : List (Str × Value)).lookup p = some v; simp⟩⟩
    · rw [List.getElem?_set_ne (Ne.symm hij)] at e2
      have ne : y ≠ p := fun e => hij (nodup_ix hN e1 (e ▸ hj))
      have e3 : Vis scope y := e3
      rcases e3 with k | k | k
      · exact absurd (L.own _ (PySem.mem_of_lookup k) rfl) ne
      · exact absurd rfl (L.nocell _ (PySem.mem_of_lookup k))
      · obtain ⟨m, hn, hl⟩ := I.loc
        have hvis : Vis X.env.scope y := (L.free _ (PySem.mem_of_lookup k) rfl).elim (fun k => .inr (.inl k)) (fun k => .inr (.inr k))
        obtain ⟨w', r, q⟩ := hl i y w e1 e2 hvis
        obtain ⟨c2, h2⟩ := look k
        refine ⟨w', r, .inr ⟨.inr k, c2, h2, ?_⟩⟩
        have c1 := cm h2
        rcases q with ⟨k', _⟩ | ⟨_, c3, e', z⟩
        · have k' : X.env.scope.names.lookup y = some .local := k'
          rcases L.free _ (PySem.mem_of_lookup k) rfl with k2 | k2 <;> rw [show X.env.scope.names.lookup y = _ from k2] at k' <;> cases k'
        · rw [c1] at e'
          cases e'
          exact cellK z
  · obtain ⟨w', z⟩ := I.cell y c (cm e)
    exact ⟨w', cellK z⟩
/-- the lambda at f, called with one value by a built-in of this frame -/
theorem lam_call1 {A : Around} {scope : Scope} {p : Str} {j k : Nat} {x : V} {v : Value} {f c' : Addr} {pm ctv : Value} {params : Arguments} {body : Expr} {tb : TE} {Q : VK} {E : Value → Shared → Prop} (I : Inv X pins σ H s) (L : LamS1 X.env.scope scope p) (hN : X.N.Nodup) (hj : X.N[j]? = some p) (rv : RelV x v) (hA : A.frames = some X.stack) (hr : Room (k + 1) A)
    (hf : s.heap.get? f = some (PySem.W.kla_obj "<lambda>" (X.env.qual ++ "<lambda>") params body scope (cloFrom X.env.cells scope.names []) pm c' ctv)) (hco : H c' = some (CodeO c' (X.env.qual ++ "<lambda>")))
    (hbind : bindArgs (PySem.W.kla_fn "<lambda>" (X.env.qual ++ "<lambda>") params body scope (cloFrom X.env.cells scope.names []) pm (.ref c') ctv) ⟨[v], []⟩ = pure [(p, v)])
    (hbody : ∀ (s : Shared) (H : Hp), Room k (A.deeper (lamEnv X scope s.heap.objs.size f c')) → PE (lamCx1 X A s H scope f c') body tb) (h : tb (σ.set j (some x)) H Q) : wpAny (model X.prog X.w) A (call (.ref f) [v]) (EP X pins σ Q) E s := by
  obtain ⟨⟨oc, vs, t, hoc, hdc, hvc⟩, _, _⟩ := I.hok c' _ hco
  have rc : codeAny (model X.prog X.w) A (.call (.ref f) ⟨[v], []⟩) (CR C8.CX0 X.stack X.prog X.w H s Q C8.E0) s := by
    refine PySem.W.kla_callFunE hr.depth hf rfl L.co L.gen rfl ⟨c', oc, vs, t, rfl, hoc, hdc, hvc⟩ ?_
    rw [hbind]
    refine wpAny_pure (wpAny_newFunctionEnv (fun y hy => L.nocell y hy) (fun y hy => ?_) (fun h₁ hns hsb => ⟨I.nolimit.fresh _ hsb, ?_⟩) L.kind)
    · rw [List.mem_singleton.mp hy]
      exact L.par
    show codeAny _ _ (.expr body (lamEnv X scope s.heap.objs.size f c')) _ _
    have kp : ∀ b o, s.heap.get? b = some o → h₁.get? b = some o := fun b o e => hsb.extBut b o (Nat.ne_of_lt (Heap.lt_size e)) (Heap.get?_push_of_some _ e)
    have J : Inv (lamCx1 X A s H scope f c') [] (σ.set j (some x)) H { s with heap := h₁, toks := s.toks + ([(p, v)] : List (Str × Value)).length } := lam_start1 I L hN hj rv hA hr.hd hns kp
    refine PySem.W.kla_codeExpr (wpAny_mono ((hbody s H (hr.deeper _)).run [] _ _ H Q J h) (fun v s' hq => ?_) fun e s' hq => False.elim hq)
    obtain ⟨w', H', J', rv, q⟩ := hq
    exact ⟨w', H', J'.os, J'.bare, J'.base, J'.hok, rv, q⟩
  refine wpAny_call (codeAny_mono rc fun r s' hq => ?_)
  cases r with
  | error e => exact False.elim hq
  | ok fl =>
    cases fl with
    | ret u => exact I.after hq
    | next => exact False.elim hq
    | brk => exact False.elim hq
    | cont => exact False.elim hq
end
theorem swo_int : SrtO.Swo (fun a b : Int => decide (a < b)) := ⟨fun x y h => by simp at h ⊢; omega, fun x y z h1 h2 => by simp at h1 h2 ⊢; omega⟩
theorem lex_asym : ∀ x y : List Int, HT.lexLt x y = true → HT.lexLt y x = false
  | [], [], h => by simp [HT.lexLt] at h
  | [], _ :: _, _ => by simp [HT.lexLt]
  | _ :: _, [], h => by simp [HT.lexLt] at h
  | a :: x, b :: y, h => by
    unfold HT.lexLt at h ⊢
    by_cases e : a = b
    · rw [if_pos e] at h
      rw [if_pos e.symm]
      exact lex_asym x y h
    · rw [if_neg e] at h
      rw [if_neg (Ne.symm e)]
      simp at h ⊢
      omega
theorem lex_neg : ∀ x y z : List Int, HT.lexLt y x = false → HT.lexLt z y = false → HT.lexLt z x = false
  | _, _, [], h1, h2 => by
    rename_i x y
    cases x with
    | nil => simp [HT.lexLt]
    | cons a x =>
      cases y with
      | nil => simp [HT.lexLt] at h1
      | cons b y => simp [HT.lexLt] at h2
  | [], _, _ :: _, _, _ => by simp [HT.lexLt]
  | a :: x, [], c :: z, h1, h2 => by simp [HT.lexLt] at h1
  | a :: x, b :: y, c :: z, h1, h2 => by
    unfold HT.lexLt at h1 h2 ⊢
    by_cases e1 : b = a
    · rw [if_pos e1] at h1
      subst e1
      by_cases e2 : c = b
      · rw [if_pos e2] at h2 ⊢
        exact lex_neg x y z h1 h2
      · rw [if_neg e2] at h2 ⊢
        exact h2
    · rw [if_neg e1] at h1
      by_cases e2 : c = b
      · rw [if_pos e2] at h2
        subst e2
        rw [if_neg e1]
        exact h1
      · rw [if_neg e2] at h2
        simp at h1 h2
        rw [if_neg (by omega)]
        simp
        omega
theorem swo_lexLt : SrtO.Swo HT.lexLt := ⟨lex_asym, lex_neg⟩
/-! ### the lambda as a new object -/
section
variable {X : Cx} {pins : List (Addr × Obj)} {σ : L2.St} {H : Hp} {s : Shared} {T : List (Addr × Str)}
abbrev lamObj (X : Cx) (params : Arguments) (body : Expr) (scope : Scope) (pm ctv : Value) (c' : Addr) : Obj := PySem.W.kla_obj "<lambda>" (X.env.qual ++ "<lambda>") params body scope (cloFrom X.env.cells scope.names []) pm c' ctv
/-- what is told of a lambda that has just been made -/
structure Made (X : Cx) (pins : List (Addr × Obj)) (σ : L2.St) (T : List (Addr × Str)) (H H1 : Hp) (s' : Shared) (params : Arguments) (body : Expr) (scope : Scope) (f c' : Addr) (pm ctv : Value) : Prop where
  inv : Inv X pins σ H1 s'
  ext : ExtN H H1
  tabs : Tabs T H1
  obj : s'.heap.get? f = some (lamObj X params body scope pm ctv c')
  fp : FpOk X pins H1 f
  code : H1 c' = some (CodeO c' (X.env.qual ++ "<lambda>"))
theorem lam_new {c P : Addr} {params : Arguments} {body : Expr} {scope : Scope} {pos : Pos} {E Q : Value → Shared → Prop} (I : Inv X pins σ H s) (TB : TabB X.base X.mg c P) (hcode : X.env.code = .ref c) (hm : (P, X.env.qual ++ "<lambda>") ∈ T) (hu : ∀ p ∈ T, p.1 = P → p.2 = X.env.qual ++ "<lambda>")
    (hT : Tabs T H) (hdef : defaultsOf params X.env = ([], [])) (hfree : ∀ y ∈ scope.names, y.2 = .free → ∃ c, X.env.cells.lookup y.1 = some c)
    (h : ∀ f c' pm ctv H1 s', Made X pins σ T H H1 s' params body scope f c' pm ctv → Q (.ref f) s') : wpAny (model X.prog X.w) X.A (eval (.Lambda params body scope pos) X.env) Q E s := by
  obtain ⟨ps, eP, trip, amo⟩ := hT _ hm
  have blt := TB.bm.keeps I.bk
  have oP := I.hok P _ eP
  have hcl := closure_ok hfree
  refine PySem.W.kla_eval hdef ?_
  match hc : codeAmong pos ps.toList with
  | some cv =>
    obtain ⟨c', rfl, eC⟩ := amo pos cv hc
    refine PySem.W.kla_makeFunctionHit (mg := X.mg) hcl I.ok.glob (I.mod.glob.keeps I.bk) hcode (TB.code.keeps I.bk) oP trip hc blt fun ctv h' tk keep big => ?_
    refine h _ c' _ ctv H _ ⟨I.kept fun b o e => Heap.get?_push_of_some _ (keep b o e), ExtN.refl H, hT, Heap.get?_push_size _ rfl, I.fpOk big (I.hok.fresh big), eC⟩
  | none =>
    refine PySem.W.kla_makeFunction (mg := X.mg) hcl I.ok.glob (I.mod.glob.keeps I.bk) hcode (TB.code.keeps I.bk) oP trip hc TB.gP blt fun c' ctv h' tk keep big lt rec tab => ?_
    obtain ⟨_, oc, vs, t, e2, e3, e4, e5⟩ := rec
    injection e2 with e2
    subst e2
    have big2 : s.heap.objs.size ≤ h'.objs.size := by omega
    have fresh := I.hok.fresh big
    have nPc : P ≠ c' := ne_of_none eP fresh
    have J := inv_table (t' := tk) (more := #[rawInt pos.line, rawInt pos.col, .ref c']) (h' := h'.push (lamObj X params body scope ((X.mg "__name__").getD .none) ctv c')) I eP
      (fun b o hb e => Heap.get?_push_of_some _ (keep b o hb e)) (Heap.get?_push_of_some _ tab) big ⟨oc, vs, t, Heap.get?_push_of_some _ e3, e4, e5⟩
    have ext : ExtN H (upd (upd H P (.tbl (ps ++ #[rawInt pos.line, rawInt pos.col, .ref c']))) c' (CodeO c' (X.env.qual ++ "<lambda>"))) := fun b o e nt => by
      have n1 : b ≠ c' := ne_of_none e fresh
      have n2 : b ≠ P := by
        rintro rfl
        rw [eP] at e
        cases e
        exact nt ps rfl
      rw [upd_ne n1, upd_ne n2, e]
    have nF : (upd (upd H P (.tbl (ps ++ #[rawInt pos.line, rawInt pos.col, .ref c']))) c' (CodeO c' (X.env.qual ++ "<lambda>"))) h'.objs.size = none := by
      have n1 : h'.objs.size ≠ c' := by omega
      have n2 : h'.objs.size ≠ P := fun z => by
        have lt := Heap.lt_size (show s.heap.get? P = some _ from oP)
        rw [← z] at lt
        exact Nat.lt_irrefl _ (Nat.lt_of_lt_of_le lt big2)
      rw [upd_ne n1, upd_ne n2]
      exact I.hok.fresh big2
    have grow : (ps ++ #[rawInt pos.line, rawInt pos.col, .ref c']).toList = ps.toList ++ [rawInt pos.line, rawInt pos.col, .ref c'] := by simp
    refine h _ c' _ ctv _ _ ⟨J, ext, fun p hp => ?_, Heap.get?_push_size _ rfl, I.fpOk big2 nF, upd_same⟩
    by_cases hb : p.1 = P
    · rw [hu p hp hb, hb]
      refine ⟨_, (upd_ne nPc).trans upd_same, grow ▸ PySem.TriplesOk_snoc _ _ _ _ trip, fun p' cv hcv => ?_⟩
      rw [grow] at hcv
      cases among_app _ trip hcv with
      | inl z =>
        obtain ⟨c0, q1, q2⟩ := amo p' cv z
        exact ⟨c0, q1, ext _ _ q2 codeO_ne⟩
      | inr z => exact ⟨c', z, upd_same⟩
    · obtain ⟨ps', a1, a2, a3⟩ := hT p hp
      refine ⟨ps', by rw [upd_ne (ne_of_none a1 fresh), upd_ne hb, a1], a2, fun pos cv hcv => ?_⟩
      obtain ⟨c0, q1, q2⟩ := a3 pos cv hcv
      exact ⟨c0, q1, ext _ _ q2 codeO_ne⟩
end
/-- keys and their order -/
structure KeyOrd (K : PySem.W.Frag) (κ : Type) where
  KV : Hp → V → κ → Prop
  lt : κ → κ → Bool
  swo : SrtO.Swo lt
  mono : ∀ {H H' : Hp} {v : V} {a : κ}, ExtN H H' → KV H v a → KV H' v a
  cmp : ∀ (X : Cx) (pins : List (Addr × Obj)) (σ : L2.St) (H : Hp) (s : Shared) (A : Around) (v1 v2 : V) (u1 u2 : Value) (a b : κ) (Q : Value → Shared → Prop) (E : Value → Shared → Prop), X.K = K → Inv X pins σ H s → A.units < cLine → RelV v1 u1 → RelV v2 u2 → KV H v1 a → KV H v2 b →
    Q (.bool (lt a b)) s → wpAny (model X.prog X.w) A (richCompare .Lt u1 u2) Q E s
/-- ints -/
def keyInt (K : PySem.W.Frag) : KeyOrd K Int where
  KV := fun _ v i => v = .int i
  lt := fun a b => decide (a < b)
  swo := swo_int
  mono := fun _ h => h
  cmp := by
    intro X pins σ H s A v1 v2 u1 u2 a b Q E hK I hu r1 r2 k1 k2 q
    subst k1 k2
    obtain ⟨t1, rfl⟩ := r1
    obtain ⟨t2, rfl⟩ := r2
    exact lt_int (prog := X.prog) (w := X.w) (A := A) (E := E) q
/-- tuples of ints -/
def keyTup (K : PySem.W.Frag) : KeyOrd K (List Int) where
  KV := fun H v ns => ∃ t, v = .ref t ∧ H t = some (.tup (ns.map V.int))
  lt := HT.lexLt
  swo := swo_lexLt
  mono := fun e h => by
    obtain ⟨t, e1, e2⟩ := h
    exact ⟨t, e1, e _ _ e2 (fun ps z => by cases z)⟩
  cmp := by
    intro X pins σ H s A v1 v2 u1 u2 a b Q E hK I hu r1 r2 k1 k2 q
    obtain ⟨t1, rfl, h1⟩ := k1
    obtain ⟨t2, rfl, h2⟩ := k2
    cases r1
    cases r2
    obtain ⟨its, r1, p1, _⟩ := I.tuple (.of h1)
    obtain ⟨its2, r2, p2, _⟩ := I.tuple (.of h2)
    exact HT.lt_tupInts p1 p2 (intsAre_of r1) (intsAre_of r2) hu q
section
variable {X : Cx} {pins : List (Addr × Obj)} {σ : L2.St} {H1 : Hp} {T : List (Addr × Str)} {κ : Type}
def KeyTurn (KO : KeyOrd X.K κ) (A : Around) (σ : L2.St) (H1 : Hp) (T : List (Addr × Str)) (q : Addr) (lamO : Obj) (xs : List V) (kf : Nat → κ) : Prop :=
  ∀ (i : Nat) (x : V) (v : Value) (H' : Hp) (s' : Shared) (pins' : List (Addr × Obj)) (E : Value → Shared → Prop), xs[i]? = some x → RelV x v → Inv X pins' σ H' s' → ExtN H1 H' → Tabs T H' → s'.heap.get? q = some lamO →
    wpAny (model X.prog X.w) A (call (.ref q) [v]) (EP X pins' σ (fun k H'' => ExtN H' H'' ∧ Tabs T H'' ∧ KO.KV H'' k (kf i))) E s'
/-- the first least one -/
def IsMin (lt : κ → κ → Bool) (kf : Nat → κ) (n i : Nat) : Prop := ∀ j, j < n → lt (kf j) (kf i) = false ∧ (j < i → lt (kf i) (kf j) = true)
theorem sqL_ext {K : PySem.W.Frag} {H H' : Hp} {a : Addr} {xs : List V} (e : ExtN H H') (h : SqL K H a xs) : SqL K H' a xs := by
  rcases h with (h | ⟨o, h⟩) | h
  · exact .inl (.inl (e _ _ h fun _ z => by cases z))
  · exact .inl (.inr ⟨o, e _ _ h fun _ z => by cases z⟩)
  · exact .inr h
theorem fp_at {H H' : Hp} {b : Addr} (f : FpOk X pins H b) (h : H' b = none) : FpOk X pins H' b := ⟨h, f.2⟩
theorem min_loop (KO : KeyOrd X.K κ) {kf : Nat → κ} {lamO : Obj} {xs : List V} {a q I S : Addr} {R : Result → Shared → Prop} (hh : X.A.handled = none) (hun : X.A.in1.units < cLine) (turn : KeyTurn KO X.A.in1 σ H1 T q lamO xs kf) (hx : SqL X.K H1 a xs) (hl : ∀ v, lamO.data ≠ .cell v) (nqI : q ≠ I) (nqS : q ≠ S) (nIS : I ≠ S)
    (hR : ∀ i x v H' s', xs[i]? = some x → RelV x v → IsMin KO.lt kf xs.length i → Inv X pins σ H' s' → ExtN H1 H' → Tabs T H' → R (.ok (.ret v)) s') :
    ∀ (r j i : Nat) (H : Hp) (s : Shared) (xb kb : V) (vb kv : Value) (c : Nat), xs.length - (j + 1) = r → j + 1 ≤ xs.length → Inv X pins σ H s → ExtN H1 H → Tabs T H → FpOk X pins H q → FpOk X pins H I → FpOk X pins H S → s.heap.get? q = some lamO →
      s.heap.get? S = some (seqObj "list" #[vb, kv] c) → s.heap.IsListIter I a (j + 1) → xs[i]? = some xb → RelV xb vb → RelV kb kv → KO.KV H kb (kf i) → IsMin KO.lt kf (j + 1) i → i ≤ j →
      codeAny (model X.prog X.w) X.A (.builtin "min.loop" ⟨[.ref I, .ref q, .ref S], []⟩) R s := by
  have hname : (toString "min" ++ toString ".loop" : String) = "min.loop" := by decide
  intro r
  induction r with
  | zero =>
    intro j i H s xb kb vb kv c hr hj Iv eN tb fq fI fS hq hS hit hxb rb rk kk best hij
    have hin : j + 1 = xs.length := by omega
    obtain ⟨its, rv, pl, hz⟩ := Iv.list (sqL_ext eN hx)
    have hlen := rv.length
    refine codeAny_builtin PySem.F.entry_min_loop ?_
    rw [Around.under_plainId PySem.F.plain_min_loop _]
    show wpAny _ X.A.in1 (seqItems? (.ref S) >>= _) _ _ _
    refine wpAny_bind (wpAny_seqItems hS rfl ?_)
    show wpAny _ X.A.in1 (tryCatch (pyNext (.ref I)) _ >>= _) _ _ _
    refine wpAny_bind (wpAny_tryCatch (wpAny_pyNext_list_end (A := X.A.in1) hh hit pl.isList (by simp; omega) fun h' eb => ?_))
    obtain ⟨f0, f1, f2, f3, f4, f5⟩ := fI
    have I1 : Inv X pins σ H { s with heap := h' } := Iv.turned (t' := s.toks) (fun b o hb e => eb b o hb e) f0 f1 f3 f4 f5
    have hS' : h'.get? S = some (seqObj "list" #[vb, kv] c) := eb S _ (Ne.symm nIS) hS
    have s1 := Heap.SameBut.update h' S (Obj.mapSeq fun _ => (#[] : Array Value))
    show wpAny _ X.A.in1 (updateSeq S (fun _ => #[]) >>= _) _ _ _
    refine wpAny_bind ?_
    refine wpAny_updateSeq hS' rfl (wpAny_bind (wpAny_letGo (wpAny_pure ?_)))
    obtain ⟨g0, g1, g2, g3, g4, g5⟩ := fS
    have I2 : Inv X pins σ H { s with heap := h'.update S (Obj.mapSeq fun _ => (#[] : Array Value)) } := I1.turned (s := { s with heap := h' }) (t' := s.toks) (fun b o hb e => (s1.2 b hb).trans e) g0 g1 g3 g4 g5
    exact hR i xb vb H _ hxb rb (hin ▸ best) I2 eN tb
  | succ r ih =>
    intro j i H s xb kb vb kv c hr hj Iv eN tb fq fI fS hq hS hit hxb rb rk kk best hij
    have hlt : j + 1 < xs.length := by omega
    obtain ⟨its, rv, pl, hz⟩ := Iv.list (sqL_ext eN hx)
    have hxj : xs[j + 1]? = some xs[j + 1] := List.getElem?_eq_getElem hlt
    obtain ⟨u, hu, ru⟩ := rv.get hxj
    refine codeAny_builtin PySem.F.entry_min_loop ?_
    rw [Around.under_plainId PySem.F.plain_min_loop _]
    show wpAny _ X.A.in1 (seqItems? (.ref S) >>= _) _ _ _
    refine wpAny_bind (wpAny_seqItems hS rfl ?_)
    show wpAny _ X.A.in1 (tryCatch (pyNext (.ref I)) _ >>= _) _ _ _
    refine wpAny_bind (wpAny_tryCatch (wpAny_pyNext_list_item hit pl.isList (x := u) (by simpa using hu) fun h' hit' sb => ?_))
    obtain ⟨f0, f1, f2, f3, f4, f5⟩ := id fI
    have I1 : Inv X pins σ H { s with heap := h' } := Iv.turned (t' := s.toks) (fun b o hb e => (sb.2 b hb).trans e) f0 f1 f3 f4 f5
    have hS' : h'.get? S = some (seqObj "list" #[vb, kv] c) := (sb.2 S (Ne.symm nIS)).trans hS
    have hq' : h'.get? q = some lamO := (sb.2 q nqI).trans hq
    obtain ⟨oI, hoI, hcI, hdI⟩ := id hit'
    have I1' : Inv X (pins ++ pinsAt [q, I, S] h') σ H { s with heap := h' } := I1.pinned (fun b hb => by
        rcases List.mem_cons.mp hb with rfl | hb
        · exact fq
        · rcases List.mem_cons.mp hb with rfl | hb
          · exact fI
          · rw [List.mem_singleton.mp hb]; exact fS) fun b hb => by
        rcases List.mem_cons.mp hb with rfl | hb
        · exact ⟨_, hq', hl⟩
        · rcases List.mem_cons.mp hb with rfl | hb
          · exact ⟨oI, hoI, fun v z => by rw [hdI] at z; cases z⟩
          · rw [List.mem_singleton.mp hb]; exact ⟨_, hS', fun v z => by cases z⟩
    show wpAny _ X.A.in1 (tryCatch (holding [u] (call (.ref q) [u])) _ >>= _) _ _ _
    refine wpAny_bind (wpAny_tryCatch (wpAny_holding (wpAny_mono (turn (j + 1) _ u H { s with heap := h' } _ _ hxj ru I1' eN tb hq') (fun kn s2 he => ?_) fun _ _ e => e)))
    obtain ⟨k2, H2, I2', rk2, e2, tb2, kk2⟩ := he
    have at_ : ∀ b o, b ∈ [q, I, S] → h'.get? b = some o → s2.heap.get? b = some o ∧ H2 b = none := fun b o hb e => by
      have := I2'.pin (b, o) (List.mem_append_right _ (List.mem_append_right _ (mem_pinsAt hb e)))
      exact ⟨this.1, this.2.1⟩
    have I2 := I2'.unpinned
    obtain ⟨hq2, nq2⟩ := at_ q _ (by simp) hq'
    obtain ⟨hI2, nI2⟩ := at_ I _ (by simp) hoI
    obtain ⟨hS2, nS2⟩ := at_ S _ (by simp) hS'
    have eN2 := eN.trans e2
    show wpAny _ X.A.in1 (tryCatch (holding [u, kn] (richCompare .Lt kn kv >>= _)) _ >>= _) _ _ _
    refine wpAny_bind (wpAny_tryCatch (wpAny_holding (wpAny_bind (KO.cmp X pins σ H2 s2 X.A.in1 k2 kb kn kv _ _ _ _ rfl I2 hun rk2 rk kk2 (KO.mono e2 kk) ?_))))
    refine wpAny_bind (wpAny_holding (wpAny_truthy_bool ?_))
    refine wpAny_bind (wpAny_letGo (wpAny_pure ?_))
    cases hb' : KO.lt (kf (j + 1)) (kf i) with
    | true =>
      have s1 := Heap.SameBut.update s2.heap S (Obj.mapSeq fun _ => #[u, kn])
      obtain ⟨c2, hc2⟩ : ∃ c2, (s2.heap.update S (Obj.mapSeq fun _ => #[u, kn])).get? S = some (seqObj "list" #[u, kn] c2) := ⟨_, get?_update_seq hS2 fun _ => #[u, kn]⟩
      simp only [if_true]
      refine wpAny_bind ?_
      refine wpAny_updateSeq hS2 rfl (wpAny_bind (wpAny_letGo ?_))
      rw [hname]
      obtain ⟨g0, g1, g2, g3, g4, g5⟩ := fS
      have I3 : Inv X pins σ H2 { s2 with heap := s2.heap.update S (Obj.mapSeq fun _ => #[u, kn]) } := I2.turned (t' := s2.toks) (fun b o hb e => (s1.2 b hb).trans e) nS2 g1 g3 g4 g5
      refine wpAny_pure ⟨plainId_quiet PySem.F.plain_min_loop _, ih (j + 1) (j + 1) H2 _ _ k2 u kn c2 (by omega) hlt I3 eN2 tb2 (fp_at fq nq2) (fp_at fI nI2) (fp_at ⟨g0, g1, g2, g3, g4, g5⟩ nS2) ((s1.2 q nqS).trans hq2) hc2 ⟨oI, (s1.2 I nIS).trans hI2, hcI, hdI⟩ hxj ru rk2 kk2 (fun j' hj' => ?_) (Nat.le_refl _)⟩
      by_cases e : j' = j + 1
      · subst e
        exact ⟨KO.swo.refl _, fun z => absurd z (Nat.lt_irrefl _)⟩
      · have b1 := (best j' (by omega)).1
        have b2 := KO.swo.ltle hb' b1
        exact ⟨KO.swo.asym _ _ b2, fun _ => b2⟩
    | false =>
      simp only [Bool.false_eq_true, if_false]
      refine wpAny_bind (wpAny_letGo ?_)
      rw [hname]
      refine wpAny_pure ⟨plainId_quiet PySem.F.plain_min_loop _, ih (j + 1) i H2 _ xb kb vb kv c (by omega) hlt I2 eN2 tb2 (fp_at fq nq2) (fp_at fI nI2) (fp_at fS nS2) hq2 hS2 ⟨oI, hI2, hcI, hdI⟩ hxb rb rk (KO.mono e2 kk) (fun j' hj' => ?_) (by omega)⟩
      by_cases e : j' = j + 1
      · subst e
        exact ⟨hb', fun z => absurd z (by omega)⟩
      · exact best j' (by omega)
theorem min_call (KO : KeyOrd X.K κ) {kf : Nat → κ} {lamO : Obj} {xs : List V} {a q : Addr} {s : Shared} {Q : VK} (hh : X.A.handled = none) (hun : X.A.in1.units < cLine) (turn : KeyTurn KO X.A.in1 σ H1 T q lamO xs kf) (hx : SqL X.K H1 a xs) (hl : ∀ v, lamO.data ≠ .cell v)
    (h0 : 0 < xs.length) (Iv : Inv X pins σ H1 s) (tb : Tabs T H1) (fq : FpOk X pins H1 q) (hq : s.heap.get? q = some lamO) (hQ : ∀ i x H', xs[i]? = some x → IsMin KO.lt kf xs.length i → ExtN H1 H' → Tabs T H' → Q x H') :
    wpAny (model X.prog X.w) X.A (call (.builtin "min") [.ref a] [(Str.ofString "key", .ref q)]) (EP X pins σ Q) X.xe s := by
  have hname : (toString "min" ++ toString ".loop" : String) = "min.loop" := by decide
  obtain ⟨its, rv, pl, hz⟩ := Iv.list hx
  have hlen := rv.length
  refine kmk_tree PySem.F.kind_min PySem.F.plain_min PySem.F.entry_min (kmk_min_key _ _) ?_
  show wpAny _ X.A.in1 (Builtin.Builtins.bindParams "min" ["key", "default"] 0 ⟨[], [(Str.ofString "key", .ref q)]⟩ >>= _) _ _ s
  refine wpAny_bind (wpAny_of_eq (show Builtin.Builtins.bindParams "min" ["key", "default"] 0 ⟨[], [(Str.ofString "key", .ref q)]⟩ = pure [some (.ref q), none] from rfl) ?_)
  refine wpAny_bind (wpAny_pure ?_)
  refine wpAny_bind (wpAny_pyIter_list pl.isList ?_)
  refine wpAny_bind (wpAny_newList ?_ (Nat.zero_le _))
  rw [hname]
  refine wpAny_pure ⟨plainId_quiet PySem.F.plain_min_loop _, ?_⟩
  have hS : (s.heap.push { cls := .type "list_iterator", data := .fields #[.ref a, .int 0 0] }).objs.size = s.heap.objs.size + 1 := size_push' ..
  rw [hS]
  have gI : ((s.heap.push { cls := .type "list_iterator", data := .fields #[.ref a, .int 0 0] }).push (seqObj "list" #[] 0)).get? s.heap.objs.size = some { cls := .type "list_iterator", data := .fields #[.ref a, .int 0 0] } :=
    Heap.get?_push_of_some _ (Heap.get?_push_size _ rfl)
  have gS : ((s.heap.push { cls := .type "list_iterator", data := .fields #[.ref a, .int 0 0] }).push (seqObj "list" #[] 0)).get? (s.heap.objs.size + 1) = some (seqObj "list" #[] 0) := by
    rw [← hS]
    exact Heap.get?_push_size _ rfl
  have old : ∀ b o, s.heap.get? b = some o → ((s.heap.push { cls := .type "list_iterator", data := .fields #[.ref a, .int 0 0] }).push (seqObj "list" #[] 0)).get? b = some o := fun b o e => Heap.get?_push_of_some _ (Heap.get?_push_of_some _ e)
  have I0 : Inv X pins σ H1 { s with heap := (s.heap.push { cls := .type "list_iterator", data := .fields #[.ref a, .int 0 0] }).push (seqObj "list" #[] 0) } := Iv.kept (t' := s.toks) old
  have fI : FpOk X pins H1 s.heap.objs.size := Iv.fpOk (Nat.le_refl _) (Iv.hok.fresh (Nat.le_refl _))
  have fS : FpOk X pins H1 (s.heap.objs.size + 1) := Iv.fpOk (Nat.le_succ _) (Iv.hok.fresh (Nat.le_succ _))
  have nIS : s.heap.objs.size ≠ s.heap.objs.size + 1 := Nat.ne_of_lt (Nat.lt_succ_self _)
  have hql : q < s.heap.objs.size := Heap.lt_size hq
  have nqI : q ≠ s.heap.objs.size := Nat.ne_of_lt hql
  have nqS : q ≠ s.heap.objs.size + 1 := Nat.ne_of_lt (Nat.lt_succ_of_lt hql)
  generalize ehp : (s.heap.push { cls := .type "list_iterator", data := .fields #[.ref a, .int 0 0] }).push (seqObj "list" #[] 0) = h0' at gI gS old I0
  generalize eI : s.heap.objs.size = I at gI fI fS nIS nqI nqS gS hql
  generalize eS : I + 1 = S at gS fS nIS nqS
  have hq0 := old q _ hq
  have hx0 : xs[0]? = some xs[0] := List.getElem?_eq_getElem h0
  obtain ⟨its', rv', pl', hz'⟩ := I0.list hx
  obtain ⟨u, hu, ru⟩ := rv'.get hx0
  refine codeAny_builtin PySem.F.entry_min_loop ?_
  rw [Around.under_plainId PySem.F.plain_min_loop _]
  show wpAny _ X.A.in1 (seqItems? (.ref S) >>= _) _ _ _
  refine wpAny_bind (wpAny_seqItems (s := { s with heap := h0' }) gS rfl ?_)
  show wpAny _ X.A.in1 (tryCatch (pyNext (.ref I)) _ >>= _) _ _ _
  refine wpAny_bind (wpAny_tryCatch (wpAny_pyNext_list_item (i := 0) ⟨_, gI, rfl, rfl⟩ pl'.isList (x := u) (by simpa using hu) fun h' hit' sb => ?_))
  obtain ⟨f0, f1, f2, f3, f4, f5⟩ := id fI
  have I1 : Inv X pins σ H1 { s with heap := h' } := I0.turned (s := { s with heap := h0' }) (t' := s.toks) (fun b o hb e => (sb.2 b hb).trans e) f0 f1 f3 f4 f5
  have hS' : h'.get? S = some (seqObj "list" #[] 0) := (sb.2 S (Ne.symm nIS)).trans gS
  have hq' : h'.get? q = some lamO := (sb.2 q nqI).trans hq0
  obtain ⟨oI, hoI, hcI, hdI⟩ := id hit'
  have I1' : Inv X (pins ++ pinsAt [q, I, S] h') σ H1 { s with heap := h' } := I1.pinned (fun b hb => by
      rcases List.mem_cons.mp hb with rfl | hb
      · exact fq
      · rcases List.mem_cons.mp hb with rfl | hb
        · exact fI
        · rw [List.mem_singleton.mp hb]; exact fS) fun b hb => by
      rcases List.mem_cons.mp hb with rfl | hb
      · exact ⟨_, hq', hl⟩
      · rcases List.mem_cons.mp hb with rfl | hb
        · exact ⟨oI, hoI, fun v z => by rw [hdI] at z; cases z⟩
        · rw [List.mem_singleton.mp hb]; exact ⟨_, hS', fun v z => by cases z⟩
  show wpAny _ X.A.in1 (tryCatch (holding [u] (call (.ref q) [u])) _ >>= _) _ _ _
  refine wpAny_bind (wpAny_tryCatch (wpAny_holding (wpAny_mono (turn 0 _ u H1 { s with heap := h' } _ _ hx0 ru I1' (ExtN.refl H1) tb hq') (fun kn s2 he => ?_) fun _ _ e => e)))
  obtain ⟨k2, H2, I2', rk2, e2, tb2, kk2⟩ := he
  have at_ : ∀ b o, b ∈ [q, I, S] → h'.get? b = some o → s2.heap.get? b = some o ∧ H2 b = none := fun b o hb e => by
    have := I2'.pin (b, o) (List.mem_append_right _ (List.mem_append_right _ (mem_pinsAt hb e)))
    exact ⟨this.1, this.2.1⟩
  have I2 := I2'.unpinned
  obtain ⟨hq2, nq2⟩ := at_ q _ (by simp) hq'
  obtain ⟨hI2, nI2⟩ := at_ I _ (by simp) hoI
  obtain ⟨hS2, nS2⟩ := at_ S _ (by simp) hS'
  have s1 := Heap.SameBut.update s2.heap S (Obj.mapSeq fun _ => #[u, kn])
  obtain ⟨c2, hc2⟩ : ∃ c2, (s2.heap.update S (Obj.mapSeq fun _ => #[u, kn])).get? S = some (seqObj "list" #[u, kn] c2) := ⟨_, get?_update_seq hS2 fun _ => #[u, kn]⟩
  show wpAny _ X.A.in1 (updateSeq S (fun _ => #[u, kn]) >>= _) _ _ _
  refine wpAny_bind ?_
  refine wpAny_updateSeq hS2 rfl ?_
  rw [hname]
  obtain ⟨g0, g1, g2, g3, g4, g5⟩ := fS
  have I3 : Inv X pins σ H2 { s2 with heap := s2.heap.update S (Obj.mapSeq fun _ => #[u, kn]) } := I2.turned (t' := s2.toks) (fun b o hb e => (s1.2 b hb).trans e) nS2 g1 g3 g4 g5
  refine wpAny_pure ⟨plainId_quiet PySem.F.plain_min_loop _, min_loop KO hh hun turn hx hl nqI nqS nIS (fun i x v H' s' hxi rx hm Iv' eN tb' => ⟨x, H', Iv', rx, hQ i x H' hxi hm eN tb'⟩) _ 0 0 H2 _ _ k2 u kn c2 rfl h0 I3 e2 tb2 (fp_at fq nq2) (fp_at fI nI2) (fp_at ⟨g0, g1, g2, g3, g4, g5⟩ nS2) ((s1.2 q nqS).trans hq2) hc2 ⟨oI, (s1.2 I nIS).trans hI2, hcI, hdI⟩ hx0 ru rk2 kk2 (fun j' hj' => ?_) (Nat.le_refl _)⟩
  have e : j' = 0 := by omega
  subst e
  exact ⟨KO.swo.refl _, fun z => absurd z (Nat.lt_irrefl _)⟩
/-- what a key's reading tells for the items of the list x -/
def KeyPost (K : PySem.W.Frag) (T : List (Addr × Str)) (KO : KeyOrd K κ) (j : Nat) (tb : TE) (σ : L2.St) (Z : (xs : List V) → (Nat → κ) → Hp → Prop) (vs : List V) (H1 : Hp) : Prop :=
  ∃ x, vs = [x] ∧ Tabs T H1 ∧ ∀ H2, ExtN H1 H2 → Tabs T H2 → ∃ (a : Addr) (xs : List V) (kf : Nat → κ), x = .ref a ∧ SqL K H2 a xs ∧
    (∀ i y H', xs[i]? = some y → ExtN H2 H' → Tabs T H' → tb (σ.set j (some y)) H' fun k H'' => ExtN H' H'' ∧ Tabs T H'' ∧ KO.KV H'' k (kf i)) ∧ Z xs kf H2
/-- min(e, key=lambda p: body), the name p in slot j -/
def tMinK (K : PySem.W.Frag) (T : List (Addr × Str)) (KO : KeyOrd K κ) (j : Nat) (te tb : TE) : TE := fun σ H Q => te σ H fun x H1 => KeyPost K T KO j tb σ (fun xs kf H2 => 0 < xs.length ∧ ∀ i y H', xs[i]? = some y → IsMin KO.lt kf xs.length i → ExtN H2 H' → Tabs T H' → Q y H') [x] H1
theorem pe_minK {e body : Expr} {te tb : TE} {params : Arguments} {scope : Scope} {p : Str} {j k : Nat} {c P : Addr} {fp lpos kpos pos : Pos} (KO : KeyOrd X.K κ) (hc : X.calm = true) (hg : Gl X "min") (hm : X.mg "min" = none) (he : PE X e te)
    (TB : TabB X.base X.mg c P) (hcode : X.env.code = .ref c) (hmT : (P, X.env.qual ++ "<lambda>") ∈ T) (hu : ∀ p ∈ T, p.1 = P → p.2 = X.env.qual ++ "<lambda>") (hr : Room (k + 2) X.A) (L : LamS1 X.env.scope scope p) (hN : X.N.Nodup) (hj : X.N[j]? = some p)
    (hdef : defaultsOf params X.env = ([], []))
    (hbind : ∀ (q : Str) (cl : List (Str × Addr)) (pm cv ctv v : Value), bindArgs (PySem.W.kla_fn "<lambda>" q params body scope cl pm cv ctv) ⟨[v], []⟩ = pure [(p, v)])
    (hbody : ∀ (s : Shared) (H : Hp) (f c' : Addr), Room k (X.A.in1.deeper (lamEnv X scope s.heap.objs.size f c')) → PE (lamCx1 X X.A.in1 s H scope f c') body tb)
    (hs0 : starEach [e] X.env = (false, eval e X.env) :: starEach [] X.env := by rfl) (hs : backTo pos (starEach [e] X.env) = (false, eval e X.env) :: backTo pos (starEach [] X.env) := by rfl) (hpl : (backTo pos (starEach [e] X.env)).any (·.1) = false := by rfl)
    (hall : (backToKw pos (keywordEach [⟨some "key", .Lambda params body scope lpos, kpos⟩] X.env)).all (·.1.isSome) = true := by rfl) (hnone : (backToKw pos (keywordEach [⟨some "key", .Lambda params body scope lpos, kpos⟩] X.env)).any (·.1.isNone) = false := by rfl)
    (hks : (backToKw pos (keywordEach [⟨some "key", .Lambda params body scope lpos, kpos⟩] X.env)).filterMap (·.1) = [Str.ofString "key"] := by rfl) :
    PE X (.Call (.Name "min" fp) [e] [⟨some "key", .Lambda params body scope lpos, kpos⟩] pos) (tMinK X.K T KO j te tb) := by
  refine ⟨fun pins s σ H Q I h => ?_⟩
  refine wpAny_Call_Name_kw (ld_blt I hg hm (u := .builtin "min") (by decide +kernel) ?_ (by decide) (by decide))
  refine PyProof.Rows.callWith_kw (thn ((pa_cons he pa_nil hs0).run pos pins s σ H (fun vs H1 => KeyPost X.K T KO j tb σ (fun xs kf H2 => 0 < xs.length ∧ ∀ i y H', xs[i]? = some y → IsMin KO.lt kf xs.length i → ExtN H2 H' → Tabs T H' → Q y H') vs H1) I h) fun us s1 ⟨vs, H1, I1, r1, q1⟩ => ?_) hs hpl hall hnone
  rw [hks]
  obtain ⟨x, rfl, hT, q1⟩ := q1
  show wpAny _ _ (evalAll [do let v ← eval (.Lambda params body scope lpos) X.env; standAt _; pure v]) _ _ _
  refine wpAny_evalAll_cons (wpAny_bind (lam_new I1 TB hcode hmT hu hT hdef (L.has I1.ok) fun f c' pm ctv H2 s2 m => wpAny_bind (wpAny_standAt (wpAny_pure ?_))))
  refine wpAny_evalAll_nil ?_
  obtain ⟨a, xs, kf, rfl, hx, ht, h0, hq⟩ := q1 H2 m.ext m.tabs
  obtain rfl := Vals.ref1 r1
  have r1' := hr.in1
  refine min_call KO (m.inv.ok.hd hc) (by have := r1'.un; omega) (fun i y v H' s' pins' E hxi ry I' e' t' hq' => ?_) hx (fun v z => by cases z) h0 m.inv m.tabs m.fp m.obj hq
  exact lam_call1 I' L hN hj ry I'.ok.frames r1' hq' (e' _ _ m.code codeO_ne) (hbind _ _ _ _ _ _) (fun s H hr => hbody s H f c' hr) (ht i y H' hxi e' t')
end
end Fx

set_option Elab.async false
set_option linter.all false
set_option maxRecDepth 100000
set_option maxHeartbeats 4000000
/-! sorted(l, key=lambda x: ..). -/
namespace Fx
open PySem PySem.Spec PyProof.Rows L2 LamX
/-! ### the stable sort as a function -/
section
variable {α β : Type}
def ins (lt : α → α → Bool) (x : α) : List α → List α
  | [] => [x]
  | y :: r => if lt y x = true then y :: ins lt x r else x :: y :: r
def isort (lt : α → α → Bool) : List α → List α
  | [] => []
  | x :: r => ins lt x (isort lt r)
theorem ins_perm (lt : α → α → Bool) (x : α) : ∀ l, (ins lt x l).Perm (x :: l)
  | [] => List.Perm.refl _
  | y :: r => by
    unfold ins
    split
    · exact (List.Perm.cons y (ins_perm lt x r)).trans (List.Perm.swap x y r)
    · exact List.Perm.refl _
theorem isort_perm (lt : α → α → Bool) : ∀ l, (isort lt l).Perm l
  | [] => List.Perm.refl _
  | x :: r => (ins_perm lt x _).trans (List.Perm.cons x (isort_perm lt r))
theorem ins_srtd {lt : α → α → Bool} (O : SrtO.Swo lt) (x : α) : ∀ {l}, SrtO.Srtd lt l → SrtO.Srtd lt (ins lt x l)
  | [], _ => List.pairwise_singleton _ _
  | y :: r, h => by
    unfold ins
    by_cases c : lt y x = true
    · rw [if_pos c]
      refine List.pairwise_cons.mpr ⟨fun z hz => ?_, ins_srtd O x (List.pairwise_cons.mp h).2⟩
      rcases List.mem_cons.mp ((ins_perm lt x r).mem_iff.mp hz) with e | hz
      · rw [e]; exact O.asym _ _ c
      · exact (List.pairwise_cons.mp h).1 z hz
    · rw [if_neg c]
      have c' : lt y x = false := by simpa using c
      refine List.pairwise_cons.mpr ⟨fun z hz => ?_, h⟩
      rcases List.mem_cons.mp hz with e | hz
      · rw [e]; exact c'
      · exact O.tr x y z c' ((List.pairwise_cons.mp h).1 z hz)
theorem isort_srtd {lt : α → α → Bool} (O : SrtO.Swo lt) : ∀ l, SrtO.Srtd lt (isort lt l)
  | [] => List.Pairwise.nil
  | x :: r => ins_srtd O x (isort_srtd O r)
theorem ins_cls {lt : α → α → Bool} (O : SrtO.Swo lt) (x z : α) : ∀ l, (ins lt x l).filter (SrtO.eqv lt z) = (x :: l).filter (SrtO.eqv lt z)
  | [] => rfl
  | y :: r => by
    unfold ins
    by_cases c : lt y x = true
    · rw [if_pos c, List.filter_cons, ins_cls O x z r, List.filter_cons, List.filter_cons, List.filter_cons]
      by_cases hx : SrtO.eqv lt z x = true
      · have hy : ¬ SrtO.eqv lt z y = true := by
          intro hy
          unfold SrtO.eqv at hx hy
          simp only [Bool.and_eq_true, Bool.not_eq_true'] at hx hy
          have q := O.tr x z y hx.1 hy.2
          rw [c] at q
          cases q
        rw [if_neg hy, if_pos hx, if_neg hy, if_pos hx]
      · rw [if_neg hx, if_neg hx]
    · rw [if_neg c]
theorem isort_stb {lt : α → α → Bool} (O : SrtO.Swo lt) : ∀ l, SrtO.Stb lt (isort lt l) l
  | [] => SrtO.Stb.refl _
  | x :: r => ⟨isort_perm lt _, fun z => by
    show (ins lt x (isort lt r)).filter _ = _
    rw [ins_cls O, List.filter_cons, List.filter_cons, (isort_stb O r).cls z]⟩
theorem srtd_uniq {lt : α → α → Bool} (O : SrtO.Swo lt) : ∀ (l m : List α), SrtO.Srtd lt l → SrtO.Srtd lt m → l.length = m.length → (∀ x, l.filter (SrtO.eqv lt x) = m.filter (SrtO.eqv lt x)) → l = m
  | [], [], _, _, _, _ => rfl
  | [], _ :: _, _, _, h, _ => by simp at h
  | _ :: _, [], _, _, h, _ => by simp at h
  | a :: l, b :: m, h1, h2, hl, hc => by
    have rf : ∀ x, SrtO.eqv lt x x = true := fun x => by unfold SrtO.eqv; rw [O.refl]; rfl
    have ha := hc a
    have hb := hc b
    rw [List.filter_cons_of_pos (rf a)] at ha
    rw [List.filter_cons_of_pos (rf b)] at hb
    have am : a ∈ b :: m := (List.mem_filter.mp (by rw [← ha]; exact List.mem_cons_self)).1
    have bl : b ∈ a :: l := (List.mem_filter.mp (by rw [hb]; exact List.mem_cons_self)).1
    have e1 : lt a b = false := by
      rcases List.mem_cons.mp am with e | am
      · rw [e]; exact O.refl _
      · exact (List.pairwise_cons.mp h2).1 a am
    have e2 : lt b a = false := by
      rcases List.mem_cons.mp bl with e | bl
      · rw [e]; exact O.refl _
      · exact (List.pairwise_cons.mp h1).1 b bl
    have eab : SrtO.eqv lt a b = true := by unfold SrtO.eqv; rw [e1, e2]; rfl
    have e3 := ha
    rw [List.filter_cons_of_pos eab] at e3
    have e4 : a = b := (List.cons.inj e3).1
    subst e4
    rw [srtd_uniq O l m (List.pairwise_cons.mp h1).2 (List.pairwise_cons.mp h2).2 (by simpa using hl) fun x => ?_]
    have q := hc x
    rw [List.filter_cons, List.filter_cons] at q
    by_cases c : SrtO.eqv lt x a = true
    · rw [if_pos c, if_pos c] at q
      exact (List.cons.inj q).2
    · rw [if_neg c, if_neg c] at q
      exact q
theorem eq_isort {lt : α → α → Bool} (O : SrtO.Swo lt) {l m : List α} (h1 : SrtO.Srtd lt l) (h2 : SrtO.Stb lt l m) : l = isort lt m :=
  srtd_uniq O _ _ h1 (isort_srtd O m) (by rw [h2.len, (isort_stb O m).len]) fun x => by rw [h2.cls x, (isort_stb O m).cls x]
theorem ins_map {lt : β → β → Bool} {lt' : α → α → Bool} (f : α → β) (x : α) : ∀ l : List α, (∀ y ∈ l, lt (f y) (f x) = lt' y x) → ins lt (f x) (l.map f) = (ins lt' x l).map f
  | [], _ => rfl
  | y :: r, h => by
    rw [List.map_cons]
    unfold ins
    rw [h y List.mem_cons_self]
    by_cases c : lt' y x = true
    · rw [if_pos c, if_pos c, List.map_cons, ins_map f x r fun z hz => h z (List.mem_cons_of_mem _ hz)]
    · rw [if_neg c, if_neg c]; rfl
theorem isort_map {lt : β → β → Bool} {lt' : α → α → Bool} (f : α → β) : ∀ l : List α, (∀ x ∈ l, ∀ y ∈ l, lt (f y) (f x) = lt' y x) → isort lt (l.map f) = (isort lt' l).map f
  | [], _ => rfl
  | x :: r, h => by
    show ins lt (f x) (isort lt (r.map f)) = (ins lt' x (isort lt' r)).map f
    rw [isort_map f r fun a ha b hb => h a (List.mem_cons_of_mem _ ha) b (List.mem_cons_of_mem _ hb)]
    exact ins_map f x _ fun y hy => h x List.mem_cons_self y (List.mem_cons_of_mem _ ((isort_perm lt' r).mem_iff.mp hy))
end
/-! ### an own record that is tracked from now on -/
section
variable {X : Cx} {pins : List (Addr × Obj)} {σ : L2.St} {H : Hp} {s : Shared}
theorem Inv.adopt {D : Addr} {o : HO} (I : Inv X pins σ H s) (f : FpOk X pins H D) (h0 : X.s_0.heap.objs.size ≤ D) (new : ObjOk X.prog X.w (upd H D o) s.heap D o) : Inv X pins σ (upd H D o) s := by
  obtain ⟨f0, f1, f2, f3, f4, f5⟩ := f
  have ne0 : ∀ b u, X.s_0.heap.get? b = some u → b ≠ D := fun b u e z => by
    rw [z] at e
    exact Nat.lt_irrefl _ (Nat.lt_of_lt_of_le (Heap.lt_size e) h0)
  have neH : ∀ b u, H b = some u → b ≠ D := fun b u e => ne_of_none e f0
  refine ⟨I.ok, I.os, I.bare, ⟨I.base.keep, I.base.slot, fun b u e n hx => ?_, I.base.there, fun b xs e => ?_, fun b ob u e => ?_, fun b ps e => ?_⟩, I.loc, I.cell, ?_, fun x c e => ?_, fun p hp => ?_, fun b u e => ?_, I.len⟩
  · rw [upd_ne (ne0 b u e)]
    exact I.base.free b u e n hx
  · have q := I.base.tups b xs e
    rw [upd_ne (neH b _ q)]
    exact q
  · have q := I.base.frzs b ob u e
    rw [upd_ne (neH b _ q)]
    exact q
  · obtain ⟨m, q⟩ := I.base.tbls b ps e
    exact ⟨m, by rw [upd_ne (neH b _ q)]; exact q⟩
  · rw [upd_ne (Ne.symm f1)]
    exact I.free
  · rw [upd_ne (f4 x c e)]
    exact I.freeC x c e
  · obtain ⟨q1, q2, q3⟩ := I.pin p hp
    exact ⟨q1, by rw [upd_ne (f5 p hp)]; exact q2, q3⟩
  · by_cases hb : b = D
    · rw [hb, upd_same] at e
      cases e
      rw [hb]
      exact new
    · rw [upd_ne hb] at e
      refine (I.hok b u e).stay (fun c v _ q => q) (fun c q => ?_) fun c xs q => ?_
      · rw [upd_ne (neH c _ q)]; exact q
      · rw [upd_ne (neH c _ q)]; exact q
end
/-- keys that the sort can compare: the kind that it finds, and its order on the values -/
def KeySort {K : PySem.W.Frag} {κ : Type} (KO : KeyOrd K κ) : Prop := ∀ (X : Cx) (pins : List (Addr × Obj)) (σ : L2.St) (H : Hp) (s : Shared) (A : Around) (ks : List V) (us : List Value) (as : List κ), X.K = K → Inv X pins σ H s → A.units + 64 < cLine → Vals ks us → Paired (KO.KV H) ks as → 2 ≤ us.length →
  ∃ (kd : SortKind) (ltv : Value → Value → Bool), SrtO.Swo ltv ∧ (∀ (Q : SortKind → Shared → Prop) (E : Value → Shared → Prop), Q kd s → wpAny (model X.prog X.w) A (keyKind' us.toArray) Q E s) ∧ SrtO.Cmp X.prog X.w A s kd (fun p => p.1 ∈ us) (SrtO.lt2 ltv) ∧
    ∀ (i j : Nat) u v a b, us[i]? = some u → us[j]? = some v → as[i]? = some a → as[j]? = some b → ltv u v = KO.lt a b
theorem ints_of_keys {K : PySem.W.Frag} {H : Hp} : ∀ {ks : List V} {us : List Value} {as : List Int}, Vals ks us → Paired ((keyInt K).KV H) ks as → IntsAre us as
  | _, _, _, .nil, .nil => .nil
  | _, _, _, .cons r t, .cons q p => by
    have q : _ = V.int _ := q
    subst q
    obtain ⟨tk, rfl⟩ := r
    exact .cons _ tk (ints_of_keys t p)
theorem keySort_int {K : PySem.W.Frag} : KeySort (keyInt K) := by
  intro X pins σ H s A ks us as hK I hu rv pk h2
  have hI := ints_of_keys rv pk
  refine ⟨oneType', SrtO.ltIv, SrtO.swo_int, fun Q E hq => ?_, SrtO.int_cmp hI, fun i j u v a b hu hv ha hb => ?_⟩
  · rw [ksk_kind (keys := us.toArray) (by simpa using hI) (by simpa using h2)]
    exact wpAny_pure hq
  · obtain ⟨t, e1⟩ := hI.get i a ha
    obtain ⟨t', e2⟩ := hI.get j b hb
    rw [hu] at e1
    rw [hv] at e2
    cases e1
    cases e2
    rfl
section
variable {X : Cx} {pins : List (Addr × Obj)} {σ : L2.St} {H1 : Hp} {T : List (Addr × Str)} {κ : Type}
theorem paired_snoc {α β : Type} {F : α → β → Prop} {x : α} {y : β} (h : F x y) : ∀ {l : List α} {m : List β}, Paired F l m → Paired F (l ++ [x]) (m ++ [y])
  | _, _, .nil => .cons h .nil
  | _, _, .cons q r => .cons q (paired_snoc h r)
/-- the items in their order -/
def sortedBy (lt : κ → κ → Bool) (kf : Nat → κ) (xs : List V) : List V := (isort (fun i j => lt (kf i) (kf j)) (List.range xs.length)).map fun i => xs.getD i .non
theorem zip_range (us vs : List Value) (h : us.length = vs.length) : us.zip vs = (List.range vs.length).map fun i => (us.getD i .none, vs.getD i .none) := by
  apply List.ext_getElem?
  intro i
  rw [List.getElem?_map]
  by_cases hi : i < vs.length
  · have hu : i < us.length := by omega
    rw [List.getElem?_range hi, List.getElem?_zip_eq_some (z := (us[i], vs[i])) |>.mpr ⟨List.getElem?_eq_getElem hu, List.getElem?_eq_getElem hi⟩]
    simp [List.getD_eq_getElem?_getD, hi, hu]
  · rw [List.getElem?_eq_none (by simp; omega), List.getElem?_eq_none (by simp; omega)]
    rfl
theorem getD_map_range (vs : List Value) : vs = (List.range vs.length).map fun i => vs.getD i .none := by
  apply List.ext_getElem?
  intro i
  rw [List.getElem?_map]
  by_cases hi : i < vs.length
  · rw [List.getElem?_range hi, List.getElem?_eq_getElem hi]
    simp [List.getD_eq_getElem?_getD, hi]
  · rw [List.getElem?_eq_none (by omega), List.getElem?_eq_none (by simp; omega)]
    rfl
theorem vals_pick {xs : List V} {vs : List Value} (rv : Vals xs vs) : ∀ {l : List Nat}, (∀ i ∈ l, i < xs.length) → Vals (l.map fun i => xs.getD i .non) (l.map fun i => vs.getD i .none)
  | [], _ => .nil
  | i :: l, h => by
    have hi := h i List.mem_cons_self
    obtain ⟨u, hu, r⟩ := rv.get (List.getElem?_eq_getElem hi)
    refine .cons ?_ (vals_pick rv fun j hj => h j (List.mem_cons_of_mem _ hj))
    have e1 : xs.getD i .non = xs[i] := by simp [List.getD_eq_getElem?_getD, hi]
    have e2 : vs.getD i .none = u := by simp [List.getD_eq_getElem?_getD, hu]
    show L2.RelV (xs.getD i .non) (vs.getD i .none)
    rw [e1, e2]
    exact r
theorem sort_tail {KO : KeyOrd X.K κ} {kf : Nat → κ} {xs : List V} {vs : List Value} {D kS : Addr} {A : Around} {e e1 : Nat} {kA : Array Value} {H' : Hp} {s' : Shared} {st' : SortSt} {P : PySem.Fin → Shared → Prop} {E : Value → Shared → Prop} (hzv : vs.length ≤ sizeLine) (rv : Vals xs vs) (I' : Inv X pins σ H' s') (szD : X.s_0.heap.objs.size ≤ D) (fD : FpOk X pins H' D) (fS : FpOk X pins H' kS) (nDS : D ≠ kS)
    (hD' : s'.heap.get? D = some (seqObj "list" #[] e1)) (hS' : s'.heap.get? kS = some (seqObj "list" kA e)) (hkl : kA.size = vs.length) (hf : failedOf st' = none)
    (ho : (arrOf st').toList.map (·.2) = (isort (fun i j => KO.lt (kf i) (kf j)) (List.range xs.length)).map fun i => vs.getD i .none)
    (h : ∀ s'', Inv X pins σ (upd H' D (.lst (sortedBy KO.lt kf xs))) s'' → P (.done (.ret .none)) s'') : wpAny (model X.prog X.w) A (ksk_tail D false e1 (.ref kS) st') P E s' := by
  have hlen := rv.length
  have hp := isort_perm (fun i j => KO.lt (kf i) (kf j)) (List.range xs.length)
  have hn : (arrOf st').size = vs.length := by
    have q := congrArg List.length ho
    rw [List.length_map, List.length_map, hp.length_eq, List.length_range, Array.length_toList] at q
    rw [q, hlen]
  have s1 := Heap.SameBut.update s'.heap kS (Obj.mapSeq fun _ => (#[] : Array Value))
  have na1 : (s'.heap.update kS (Obj.mapSeq fun _ => (#[] : Array Value))).get? D = some (seqObj "list" #[] e1) := (s1.2 D nDS).trans hD'
  have s2 := Heap.SameBut.update (s'.heap.update kS (Obj.mapSeq fun _ => (#[] : Array Value))) D (Obj.mapSeq fun _ => (arrOf st').map (·.2))
  obtain ⟨c2, hc2⟩ : ∃ c2, ((s'.heap.update kS (Obj.mapSeq fun _ => (#[] : Array Value))).update D (Obj.mapSeq fun _ => (arrOf st').map (·.2))).get? D = some (seqObj "list" ((arrOf st').map (·.2)) c2) := ⟨_, get?_update_seq na1 fun _ => (arrOf st').map (·.2)⟩
  unfold ksk_tail
  try dsimp only
  refine wpAny_bind (listUpdate_at hS' rfl ?_ (by rw [hkl]; exact hzv) (Nat.zero_le _))
  refine wpAny_bind (wpAny_letGo ?_)
  refine wpAny_bind (seqEpoch_at na1 rfl ?_)
  refine wpAny_bind (listUpdate_at na1 rfl ?_ (Nat.zero_le _) (by simp only [Bool.false_eq_true, if_false, Array.size_map, hn]; exact Nat.le_succ_of_le hzv))
  rw [hf]
  simp only [bne_self_eq_false, Bool.false_eq_true, if_false]
  refine wpAny_pure (h _ ?_)
  obtain ⟨g0, g1, g2, g3, g4, g5⟩ := id fS
  obtain ⟨d0, d1, d2, d3, d4, d5⟩ := id fD
  have I1 : Inv X pins σ H' { s' with heap := s'.heap.update kS (Obj.mapSeq fun _ => (#[] : Array Value)) } := I'.turned (t' := s'.toks) (fun b o hb e => (s1.2 b hb).trans e) g0 g1 g3 g4 g5
  have I2 : Inv X pins σ H' { s' with heap := (s'.heap.update kS (Obj.mapSeq fun _ => (#[] : Array Value))).update D (Obj.mapSeq fun _ => (arrOf st').map (·.2)) } := I1.turned (t' := s'.toks) (fun b o hb e => (s2.2 b hb).trans e) d0 d1 d3 d4 d5
  have hm : ∀ i ∈ isort (fun i j => KO.lt (kf i) (kf j)) (List.range xs.length), i < xs.length := fun i hi => List.mem_range.mp (hp.mem_iff.mp hi)
  have rr := vals_pick rv hm
  have zl : (sortedBy KO.lt kf xs).length ≤ sizeLine := by
    unfold sortedBy
    rw [List.length_map, hp.length_eq, List.length_range, hlen]
    exact hzv
  refine Inv.adopt I2 fD szD ⟨zl, _, c2, rr, ?_⟩
  have ea : ((isort (fun i j => KO.lt (kf i) (kf j)) (List.range xs.length)).map fun i => vs.getD i .none).toArray = (arrOf st').map (·.2) := by
    rw [← ho]
    apply Array.toList_inj.mp
    simp
  rw [ea]
  exact hc2
theorem sort_end {KO : KeyOrd X.K κ} (KS : KeySort KO) {kf : Nat → κ} {xs ks : List V} {vs : List Value} {D kS : Addr} {A : Around} {e e1 : Nat} {kA : Array Value} {H' : Hp} {s' : Shared} {P : PySem.Fin → Shared → Prop} {E : Value → Shared → Prop} (hu : A.units + 64 < cLine) (hzv : vs.length ≤ sizeLine) (rv : Vals xs vs) (I' : Inv X pins σ H' s') (szD : X.s_0.heap.objs.size ≤ D) (fD : FpOk X pins H' D) (fS : FpOk X pins H' kS) (nDS : D ≠ kS)
    (hD' : s'.heap.get? D = some (seqObj "list" #[] e1)) (hS' : s'.heap.get? kS = some (seqObj "list" kA e)) (hkl : kA.size = vs.length) (rk : Vals ks kA.toList) (pk : Paired (KO.KV H') ks ((List.range vs.length).map kf))
    (h : ∀ s'', Inv X pins σ (upd H' D (.lst (sortedBy KO.lt kf xs))) s'' → P (.done (.ret .none)) s'') : wpAny (model X.prog X.w) A (ksk_end D false vs.toArray e1 (.ref kS) kA) P E s' := by
  have hlen := rv.length
  have hkl2 : kA.toList.length = vs.length := by rw [Array.length_toList]; exact hkl
  have ez : (kA.zip vs.toArray).toList = (List.range vs.length).map fun i => (kA.toList.getD i .none, vs.getD i .none) := by
    rw [ksk_zip]
    exact zip_range _ _ hkl2
  unfold ksk_end
  try dsimp only
  simp only [Bool.false_eq_true, if_false]
  by_cases h2 : vs.toArray.size < 2
  · rw [if_pos h2, if_pos h2]
    refine wpAny_bind (wpAny_pure ?_)
    rw [StateT.run_pure]
    refine wpAny_bind (wpAny_pure ?_)
    try dsimp only
    refine sort_tail (kf := kf) (KO := KO) hzv rv I' szD fD fS nDS hD' hS' hkl rfl ?_ h
    have el : (arrOf (SortSt.mk' general' (kA.zip vs.toArray) #[] 7 none)).toList = (kA.zip vs.toArray).toList := rfl
    rw [el, ez, List.map_map, hlen]
    rw [List.size_toArray] at h2
    have e3 : isort (fun i j => KO.lt (kf i) (kf j)) (List.range vs.length) = List.range vs.length := by
      have : vs.length = 0 ∨ vs.length = 1 := by omega
      rcases this with e | e <;> rw [e] <;> rfl
    rw [e3]
    rfl
  · rw [if_neg h2, if_neg h2]
    rw [List.size_toArray] at h2
    obtain ⟨kd, ltv, swo, hkind, hcmp, heq⟩ := KS X pins σ H' s' A ks kA.toList _ rfl I' hu rk pk (by omega)
    rw [Array.toArray_toList] at hkind
    refine wpAny_bind (hkind _ _ ?_)
    have hall : SrtO.AllL (fun p : Keyed => p.1 ∈ kA.toList) (kA.zip vs.toArray).toList := fun p hm => by
      rw [ksk_zip] at hm
      exact (List.of_mem_zip (show (p.1, p.2) ∈ _ from hm)).1
    refine wpAny_bind (wpAny_mono (SrtO.wpS_sortO (st0 := SortSt.mk' kd (kA.zip vs.toArray) #[] 7 none)
      (Q := fun _ st' => SrtO.Srtd (SrtO.lt2 ltv) (arrOf st').toList ∧ SrtO.Stb (SrtO.lt2 ltv) (arrOf st').toList (kA.zip vs.toArray).toList ∧ failedOf st' = none) (SrtO.swo2 swo) hcmp rfl hall rfl rfl fun st' a1 a2 a3 => ⟨a1, a2, a3⟩) ?_ fun _ _ e => e)
    rintro ⟨⟨⟩, st'⟩ s2 ⟨rfl, hp1, hp2, hf⟩
    try dsimp only
    refine sort_tail (kf := kf) (KO := KO) hzv rv I' szD fD fS nDS hD' hS' hkl hf ?_ h
    rw [eq_isort (SrtO.swo2 swo) hp1 hp2, ez, hlen, isort_map (lt' := fun i j => KO.lt (kf i) (kf j)), List.map_map]
    · rfl
    · intro i hi j hj
      have hi' := List.mem_range.mp hi
      have hj' := List.mem_range.mp hj
      have gi : kA.toList[i]? = some (kA.toList.getD i .none) := by rw [List.getD_eq_getElem?_getD, List.getElem?_eq_getElem (by omega)]; rfl
      have gj : kA.toList[j]? = some (kA.toList.getD j .none) := by rw [List.getD_eq_getElem?_getD, List.getElem?_eq_getElem (by omega)]; rfl
      exact heq j i _ _ _ _ gj gi (by rw [List.getElem?_map, List.getElem?_range hj']; rfl) (by rw [List.getElem?_map, List.getElem?_range hi']; rfl)
theorem sorted_call (KO : KeyOrd X.K κ) (KS : KeySort KO) {kf : Nat → κ} {lamO : Obj} {xs : List V} {a q : Addr} {s : Shared} {Q : VK} (hh : X.A.handled = none) (hun : X.A.in1.in1.units + 64 < cLine) (turn : KeyTurn KO X.A.in1.in1 σ H1 T q lamO xs kf) (hx : SqL X.K H1 a xs) (hl : ∀ v, lamO.data ≠ .cell v)
    (Iv : Inv X pins σ H1 s) (tb : Tabs T H1) (fq : FpOk X pins H1 q) (hq : s.heap.get? q = some lamO) (hQ : ∀ H' p, ExtN H1 H' → Tabs T H' → H' p = none → Q (.ref p) (upd H' p (.lst (sortedBy KO.lt kf xs)))) :
    wpAny (model X.prog X.w) X.A (call (.builtin "sorted") [.ref a] [(Str.ofString "key", .ref q)]) (EP X pins σ Q) X.xe s := by
  obtain ⟨vs, rv, pl, hz⟩ := Iv.list hx
  have hlen := rv.length
  have hzv : vs.length ≤ sizeLine := by rw [← hlen]; exact hz
  refine call_function_entry_kw kind_sorted plain_sorted entry_sorted (ksk_s1 _ _) ?_
  unfold Builtin.«sorted»
  refine wpAny_bind (m := checkCount "sorted" 1 1 _) (wpAny_pure ?_)
  refine wpAny_bind (collect_list pl.isList ?_ hzv)
  refine wpAny_bind (wpAny_newList ?_ hzv)
  have hsz : ((s.heap.push (seqObj "list" #[] 0)).update s.heap.objs.size (Obj.mapSeq (· ++ vs.toArray))).objs.size = s.heap.objs.size + 1 := by
    rw [Heap.size_update, size_push']
  have hoL : (((s.heap.push (seqObj "list" #[] 0)).update s.heap.objs.size (Obj.mapSeq (· ++ vs.toArray))).push (seqObj "list" vs.toArray 0)).get? (s.heap.objs.size + 1) = some (seqObj "list" vs.toArray 0) := by
    rw [← hsz]; exact Heap.get?_push_size _ rfl
  have keep : ∀ b o, s.heap.get? b = some o → (((s.heap.push (seqObj "list" #[] 0)).update s.heap.objs.size (Obj.mapSeq (· ++ vs.toArray))).push (seqObj "list" vs.toArray 0)).get? b = some o := fun b o e => by
    have hlt : b < s.heap.objs.size := Heap.lt_size e
    refine Heap.get?_push_of_some _ ?_
    rw [Heap.get?_update_ne _ _ _ _ (Nat.ne_of_lt hlt)]
    exact Heap.get?_push_of_some _ e
  show wpAny _ _ _ _ _ { s with heap := ((s.heap.push (seqObj "list" #[] 0)).update s.heap.objs.size (Obj.mapSeq (· ++ vs.toArray))).push (seqObj "list" vs.toArray 0) }
  rw [hsz]
  have hsA : (((s.heap.push (seqObj "list" #[] 0)).update s.heap.objs.size (Obj.mapSeq (· ++ vs.toArray))).push (seqObj "list" vs.toArray 0)).objs.size = s.heap.objs.size + 2 := by
    rw [size_push', hsz]
  have hD : s.heap.objs.size ≤ s.heap.objs.size + 1 := Nat.le_succ _
  have hqs : q < s.heap.objs.size := Heap.lt_size hq
  generalize hA : ((s.heap.push (seqObj "list" #[] 0)).update s.heap.objs.size (Obj.mapSeq (· ++ vs.toArray))).push (seqObj "list" vs.toArray 0) = hp0 at hoL keep hsA
  generalize eD : s.heap.objs.size + 1 = D at hoL hD
  refine wpAny_bind (wpAny_holding (wpAny_call_entry_kw slot_list_sort (s := { s with heap := hp0 }) ⟨_, hoL, rfl⟩ entry_list_sort ?_ (ksk_l1 _ _)))
  show wpAny (model X.prog X.w) X.A.in1.in1 (Builtin.«list.sort» ⟨[.ref D], [(Str.ofString "key", .ref q)]⟩) _ _ _
  rw [ksk_t1]
  unfold ksk_tree
  have s1 := Heap.SameBut.update hp0 D (Obj.mapSeq fun _ => (#[] : Array Value))
  obtain ⟨e1, ho1⟩ : ∃ e1, (hp0.update D (Obj.mapSeq fun _ => (#[] : Array Value))).get? D = some (seqObj "list" #[] e1) := ⟨_, get?_update_seq hoL fun _ => #[]⟩
  refine wpAny_bind (listItems_at hoL rfl ?_)
  refine wpAny_bind (listUpdate_at hoL rfl ?_ (by rw [List.size_toArray]; exact hzv) (Nat.zero_le _))
  refine wpAny_bind (seqEpoch_at ho1 rfl ?_)
  refine wpAny_bind (wpAny_newTuple ?_ (by show vs.length ≤ _; exact hzv))
  refine wpAny_bind (wpAny_newList ?_ (Nat.zero_le _))
  refine wpAny_holding ?_
  have hk2 : ((hp0.update D (Obj.mapSeq fun _ => (#[] : Array Value))).push (seqObj "tuple" vs.toArray 0)).objs.size = s.heap.objs.size + 3 := by
    rw [size_push', Heap.size_update, hsA]
  have keepB : ∀ b o, s.heap.get? b = some o → (((hp0.update D (Obj.mapSeq fun _ => (#[] : Array Value))).push (seqObj "tuple" vs.toArray 0)).push (seqObj "list" #[] 0)).get? b = some o := fun b o e => by
    have hlt : b < s.heap.objs.size := Heap.lt_size e
    refine Heap.get?_push_of_some _ (Heap.get?_push_of_some _ ?_)
    have ne : b ≠ D := fun z => Nat.lt_irrefl _ (Nat.lt_of_lt_of_le (z ▸ hlt) hD)
    exact (s1.2 b ne).trans (keep b o e)
  have gD : (((hp0.update D (Obj.mapSeq fun _ => (#[] : Array Value))).push (seqObj "tuple" vs.toArray 0)).push (seqObj "list" #[] 0)).get? D = some (seqObj "list" #[] e1) := Heap.get?_push_of_some _ (Heap.get?_push_of_some _ ho1)
  have gS : (((hp0.update D (Obj.mapSeq fun _ => (#[] : Array Value))).push (seqObj "tuple" vs.toArray 0)).push (seqObj "list" #[] 0)).get? (s.heap.objs.size + 3) = some (seqObj "list" #[] 0) := by
    rw [← hk2]
    exact Heap.get?_push_size _ rfl
  rw [hk2]
  have nDS : D ≠ s.heap.objs.size + 3 := by rw [← eD]; exact Nat.ne_of_lt (Nat.lt_of_lt_of_le (Nat.lt_succ_self _) (Nat.le_succ _))
  have hS : s.heap.objs.size ≤ s.heap.objs.size + 3 := Nat.le_add_right _ _
  generalize eS : s.heap.objs.size + 3 = kS at gS nDS hS
  generalize hB : ((hp0.update D (Obj.mapSeq fun _ => (#[] : Array Value))).push (seqObj "tuple" vs.toArray 0)).push (seqObj "list" #[] 0) = hp1 at keepB gD gS
  have I0 : Inv X pins σ H1 { s with heap := hp1 } := Iv.kept (t' := s.toks) keepB
  have fD : FpOk X pins H1 D := Iv.fpOk hD (Iv.hok.fresh hD)
  have fS : FpOk X pins H1 kS := Iv.fpOk hS (Iv.hok.fresh hS)
  have nqD : q ≠ D := fun z => Nat.lt_irrefl _ (Nat.lt_of_lt_of_le (z ▸ hqs) hD)
  have nqS : q ≠ kS := fun z => Nat.lt_irrefl _ (Nat.lt_of_lt_of_le (z ▸ hqs) hS)
  have szD : X.s_0.heap.objs.size ≤ D := Nat.le_trans Iv.sz hD
  have hq0 := keepB q _ hq
  unfold ksk_rest
  refine wpAny_bind (wpAny_rule ?_)
  rw [List.forIn_toArray]
  refine wpAny_bind (ksk_fold (fun i s' => ∃ (H' : Hp) (kA : Array Value) (e : Nat) (ks : List V), Inv X pins σ H' s' ∧ ExtN H1 H' ∧ Tabs T H' ∧ s'.heap.get? q = some lamO ∧ H' q = none ∧ s'.heap.get? D = some (seqObj "list" #[] e1) ∧ H' D = none ∧ s'.heap.get? kS = some (seqObj "list" kA e) ∧ H' kS = none ∧
      Vals ks kA.toList ∧ Paired (KO.KV H') ks ((List.range i).map kf)) vs 0 _ ?start ?step ?done)
  case start => exact ⟨H1, #[], 0, [], I0, ExtN.refl _, tb, hq0, fq.1, gD, fD.1, gS, fS.1, .nil, .nil⟩
  case step =>
    rintro j u s' hu ⟨H', kA, e, ks, I', eN, tb', hq', nq', hD', nD', hS', nS', rk, pk⟩
    simp only [Nat.zero_add] at pk ⊢
    have hj : j < vs.length := (List.getElem?_eq_some_iff.mp hu).1
    have hxj : xs[j]? = some xs[j] := List.getElem?_eq_getElem (by omega)
    obtain ⟨u', hu', ru⟩ := rv.get hxj
    rw [hu] at hu'
    cases hu'
    have hkl : ks.length = kA.size := by rw [← Array.length_toList]; exact rk.length
    have hpl : ks.length = j := by have q := Paired.length pk; rw [List.length_map, List.length_range] at q; exact q
    have hjz : j < sizeLine := Nat.lt_of_lt_of_le hj hzv
    rw [hpl] at hkl
    have I1' : Inv X (pins ++ pinsAt [q, D, kS] s'.heap) σ H' s' := I'.pinned (fun b hb => by
        rcases List.mem_cons.mp hb with rfl | hb
        · exact fp_at fq nq'
        · rcases List.mem_cons.mp hb with rfl | hb
          · exact fp_at fD nD'
          · rw [List.mem_singleton.mp hb]; exact fp_at fS nS') fun b hb => by
        rcases List.mem_cons.mp hb with rfl | hb
        · exact ⟨_, hq', hl⟩
        · rcases List.mem_cons.mp hb with rfl | hb
          · exact ⟨_, hD', fun v z => by cases z⟩
          · rw [List.mem_singleton.mp hb]; exact ⟨_, hS', fun v z => by cases z⟩
    refine wpAny_bind (wpAny_attempt (wpAny_mono (turn j _ u H' s' _ (fun _ _ => False) hxj ru I1' eN tb' hq') (fun kn s2 he => ?_) fun _ _ hF => hF.elim))
    obtain ⟨k2, H2, I2', rk2, e2, tb2, kk2⟩ := he
    have at_ : ∀ b o, b ∈ [q, D, kS] → s'.heap.get? b = some o → s2.heap.get? b = some o ∧ H2 b = none := fun b o hb e => by
      have := I2'.pin (b, o) (List.mem_append_right _ (List.mem_append_right _ (mem_pinsAt hb e)))
      exact ⟨this.1, this.2.1⟩
    have I2 := I2'.unpinned
    obtain ⟨hq2, nq2⟩ := at_ q _ (by simp) hq'
    obtain ⟨hD2, nD2⟩ := at_ D _ (by simp) hD'
    obtain ⟨hS2, nS2⟩ := at_ kS _ (by simp) hS'
    try dsimp only
    have s3 := Heap.SameBut.update s2.heap kS (Obj.mapSeq (·.push kn))
    obtain ⟨c2, hc2⟩ : ∃ c2, (s2.heap.update kS (Obj.mapSeq (·.push kn))).get? kS = some (seqObj "list" (kA.push kn) c2) := ⟨_, get?_update_seq hS2 (·.push kn)⟩
    refine wpAny_bind (listUpdate_at hS2 rfl ?_ (by rw [← hkl]; exact Nat.le_of_lt hjz) (Nat.le_trans (Nat.le_of_eq (Array.size_push ..)) (by rw [← hkl]; exact Nat.succ_le_succ (Nat.le_of_lt hjz))))
    obtain ⟨g0, g1, g2, g3, g4, g5⟩ := id fS
    have I3 : Inv X pins σ H2 { s2 with heap := s2.heap.update kS (Obj.mapSeq (·.push kn)) } := I2.turned (t' := s2.toks) (fun b o hb e => (s3.2 b hb).trans e) nS2 g1 g3 g4 g5
    refine wpAny_pure ⟨rfl, H2, kA.push kn, c2, ks ++ [k2], I3, eN.trans e2, tb2, (s3.2 q nqS).trans hq2, nq2, (s3.2 D nDS).trans hD2, nD2, hc2, nS2, ?_, ?_⟩
    · rw [Array.toList_push]
      exact rk.append (.cons rk2 .nil)
    · rw [List.range_succ, List.map_append]
      exact paired_snoc kk2 (Paired.mapP pk fun a b h => KO.mono e2 h)
  case done =>
    rintro s' ⟨H', kA, e, ks, I', eN, tb', hq', nq', hD', nD', hS', nS', rk, pk⟩
    simp only [Nat.zero_add] at pk
    have hkl : kA.size = vs.length := by
      have q := Paired.length pk
      have q2 : ks.length = kA.toList.length := rk.length
      rw [List.length_map, List.length_range] at q
      rw [← Array.length_toList, ← q2, q]
    have hkl2 : kA.toList.length = vs.length := by rw [Array.length_toList]; exact hkl
    try dsimp only
    refine wpAny_bind (listItems_at hS' rfl ?_)
    refine sort_end KS hun hzv rv I' szD (fp_at fD nD') (fp_at fS nS') nDS hD' hS' hkl rk pk fun s'' I'' => ⟨_, rfl, ?_⟩
    exact wpAny_pure ⟨_, rfl, .ref D, _, I'', rfl, hQ H' D eN tb' nD'⟩
end
end Fx

set_option Elab.async false
set_option linter.all false
set_option maxRecDepth 100000
set_option maxHeartbeats 4000000
/-! sorted, min by a lambda: the rules and what they make of data. -/
namespace Fx
open PySem PySem.Spec PyProof.Rows L2 LamX
section
variable {X : Cx} {T : List (Addr × Str)} {κ : Type}
/-- sorted(e, key=lambda p: body), the name p in slot j -/
def tSortK (K : PySem.W.Frag) (T : List (Addr × Str)) (KO : KeyOrd K κ) (j : Nat) (te tb : TE) : TE := fun σ H Q => te σ H fun x H1 => KeyPost K T KO j tb σ (fun xs kf H2 => ∀ H' p, ExtN H2 H' → Tabs T H' → H' p = none → Q (.ref p) (upd H' p (.lst (sortedBy KO.lt kf xs)))) [x] H1
theorem pe_sortK {e body : Expr} {te tb : TE} {params : Arguments} {scope : Scope} {p : Str} {j k : Nat} {c P : Addr} {fp lpos kpos pos : Pos} (KO : KeyOrd X.K κ) (KS : KeySort KO) (hc : X.calm = true) (hg : Gl X "sorted") (hm : X.mg "sorted" = none) (he : PE X e te)
    (TB : TabB X.base X.mg c P) (hcode : X.env.code = .ref c) (hmT : (P, X.env.qual ++ "<lambda>") ∈ T) (hu : ∀ p ∈ T, p.1 = P → p.2 = X.env.qual ++ "<lambda>") (hr : Room (k + 3) X.A) (L : LamS1 X.env.scope scope p) (hN : X.N.Nodup) (hj : X.N[j]? = some p)
    (hdef : defaultsOf params X.env = ([], []))
    (hbind : ∀ (q : Str) (cl : List (Str × Addr)) (pm cv ctv v : Value), bindArgs (PySem.W.kla_fn "<lambda>" q params body scope cl pm cv ctv) ⟨[v], []⟩ = pure [(p, v)])
    (hbody : ∀ (s : Shared) (H : Hp) (f c' : Addr), Room k (X.A.in1.in1.deeper (lamEnv X scope s.heap.objs.size f c')) → PE (lamCx1 X X.A.in1.in1 s H scope f c') body tb)
    (hs0 : starEach [e] X.env = (false, eval e X.env) :: starEach [] X.env := by rfl) (hs : backTo pos (starEach [e] X.env) = (false, eval e X.env) :: backTo pos (starEach [] X.env) := by rfl) (hpl : (backTo pos (starEach [e] X.env)).any (·.1) = false := by rfl)
    (hall : (backToKw pos (keywordEach [⟨some "key", .Lambda params body scope lpos, kpos⟩] X.env)).all (·.1.isSome) = true := by rfl) (hnone : (backToKw pos (keywordEach [⟨some "key", .Lambda params body scope lpos, kpos⟩] X.env)).any (·.1.isNone) = false := by rfl)
    (hks : (backToKw pos (keywordEach [⟨some "key", .Lambda params body scope lpos, kpos⟩] X.env)).filterMap (·.1) = [Str.ofString "key"] := by rfl) :
    PE X (.Call (.Name "sorted" fp) [e] [⟨some "key", .Lambda params body scope lpos, kpos⟩] pos) (tSortK X.K T KO j te tb) := by
  refine ⟨fun pins s σ H Q I h => ?_⟩
  refine wpAny_Call_Name_kw (ld_blt I hg hm (u := .builtin "sorted") (by decide +kernel) ?_ (by decide) (by decide))
  refine PyProof.Rows.callWith_kw (thn ((pa_cons he pa_nil hs0).run pos pins s σ H (fun vs H1 => KeyPost X.K T KO j tb σ (fun xs kf H2 => ∀ H' p, ExtN H2 H' → Tabs T H' → H' p = none → Q (.ref p) (upd H' p (.lst (sortedBy KO.lt kf xs)))) vs H1) I h) fun us s1 ⟨vs, H1, I1, r1, q1⟩ => ?_) hs hpl hall hnone
  rw [hks]
  obtain ⟨x, rfl, hT, q1⟩ := q1
  show wpAny _ _ (evalAll [do let v ← eval (.Lambda params body scope lpos) X.env; standAt _; pure v]) _ _ _
  refine wpAny_evalAll_cons (wpAny_bind (lam_new I1 TB hcode hmT hu hT hdef (L.has I1.ok) fun f c' pm ctv H2 s2 m => wpAny_bind (wpAny_standAt (wpAny_pure ?_))))
  refine wpAny_evalAll_nil ?_
  obtain ⟨a, xs, kf, rfl, hx, ht, hq⟩ := q1 H2 m.ext m.tabs
  obtain rfl := Vals.ref1 r1
  have r1' := hr.in1.in1
  refine sorted_call KO KS (m.inv.ok.hd hc) (by have := r1'.un; omega) (fun i y v H' s' pins' E hxi ry I' e' t' hq' => ?_) hx (fun v z => by cases z) m.inv m.tabs m.fp m.obj hq
  exact lam_call1 I' L hN hj ry I'.ok.frames r1' hq' (e' _ _ m.code codeO_ne) (hbind _ _ _ _ _ _) (fun s H hr => hbody s H f c' hr) (ht i y H' hxi e' t')
end
section
variable {T : List (Addr × Str)} {W : Wld T} {G H G1 H1 G2 H2 H0 : Hp} {G0 : Hp × Hp} {c c' k : Nat} {K : PySem.W.Frag} {κ : Type}
/-- how keys stand in data -/
structure KeyD (KO : KeyOrd K κ) (emb : κ → D) : Prop where
  kv : ∀ {T : List (Addr × Str)} {G H : Hp} {v : V} {a : κ}, GOk (W0 T) G H → Rp G v (emb a) → KO.KV H v a
theorem keyD_int : KeyD (keyInt K) .int := ⟨fun g r => by cases r; rfl⟩
theorem keyD_tup : KeyD (keyTup K) dI := ⟨fun g r => by
  cases r with
  | tup h r =>
    rw [RpL.ints r] at h
    exact ⟨_, rfl, (g _ _ h).1⟩⟩
def eraseM : Env' → Env'
  | [] => []
  | .dat d :: r => .dat d :: eraseM r
  | _ :: r => .emp :: eraseM r
theorem eraseM_len : ∀ e : Env', (eraseM e).length = e.length
  | [] => rfl
  | .mu _ :: r => congrArg (· + 1) (eraseM_len r)
  | .md _ :: r => congrArg (· + 1) (eraseM_len r)
  | .emp :: r => congrArg (· + 1) (eraseM_len r)
  | .dat _ :: r => congrArg (· + 1) (eraseM_len r)
theorem eraseM_dat : ∀ {e : Env'} {i : Nat} {d : D}, (eraseM e)[i]? = some (.dat d) → e[i]? = some (.dat d)
  | [], _, _, h => h
  | .mu _ :: r, 0, _, h => by simp [eraseM] at h
  | .md _ :: r, 0, _, h => by simp [eraseM] at h
  | .emp :: r, 0, _, h => by simp [eraseM] at h
  | .dat _ :: r, 0, _, h => h
  | .mu _ :: r, i + 1, _, h => eraseM_dat (e := r) (i := i) h
  | .md _ :: r, i + 1, _, h => eraseM_dat (e := r) (i := i) h
  | .emp :: r, i + 1, _, h => eraseM_dat (e := r) (i := i) h
  | .dat _ :: r, i + 1, _, h => eraseM_dat (e := r) (i := i) h
theorem eraseM_mu : ∀ {e : Env'} {i : Nat} {s : Slot}, (eraseM e)[i]? = some s → s.isM = false
  | [], _, _, h => by cases h
  | .mu _ :: r, 0, _, h => by simp [eraseM] at h; rw [← h]; rfl
  | .md _ :: r, 0, _, h => by simp [eraseM] at h; rw [← h]; rfl
  | .emp :: r, 0, _, h => by simp [eraseM] at h; rw [← h]; rfl
  | .dat _ :: r, 0, _, h => by simp [eraseM] at h; rw [← h]; rfl
  | .mu _ :: r, i + 1, _, h => eraseM_mu (e := r) (i := i) h
  | .md _ :: r, i + 1, _, h => eraseM_mu (e := r) (i := i) h
  | .emp :: r, i + 1, _, h => eraseM_mu (e := r) (i := i) h
  | .dat _ :: r, i + 1, _, h => eraseM_mu (e := r) (i := i) h
theorem stp_extN (g : GOk W G H) (e : LamX.ExtN H H1) : Stp W G H G H1 := ⟨fun _ _ h => h, fun a o h _ n => e a o h n, fun _ h => .inl h, fun a h o e1 n => h o (e a o e1 n) n⟩
theorem gok_extN (g : GOk W G H) (e : LamX.ExtN H H1) : GOk W G H1 := fun a o h => let ⟨h1, h2, h3⟩ := g a o h; ⟨e a o h1 h2, h2, h3⟩
theorem J_extN (j : W.J c H) (e : LamX.ExtN H H1) (t : LamX.Tabs T H1) : W.J c H1 := W.pure j (fun a o h n => e a o h n) t
theorem extN_stp (s : Stp (W0 T) G H G1 H1) : LamX.ExtN H H1 := fun a o h n => s.hh a o h (fun z => z) n
theorem At.lam {σ : L2.St} {env : Env'} (A : At W G0 H0 c G H σ env) (e : LamX.ExtN H H1) (t : LamX.Tabs T H1) : At (W0 T) (G, G) H1 0 G H1 σ (eraseM env) :=
  ⟨Stp.refl, fun _ _ h => h, (gok_extN A.gok e).drop, t, ⟨by rw [eraseM_len]; exact A.env.len, fun i d h => A.env.dat i d (eraseM_dat h), fun i s h hs => (by rw [eraseM_mu h] at hs; cases hs), fun i j s t l _ h _ hs => (by rw [eraseM_mu h] at hs; cases hs)⟩⟩
theorem key_turn {KO : KeyOrd K κ} {emb : κ → D} (KD : KeyD KO emb) {tb : TE} {env : Env'} {σ : L2.St} {j : Nat} {d : D} {a : κ} {y : V} (A : At W G0 H0 c G H σ env) (e : LamX.ExtN H H1) (t : LamX.Tabs T H1) (r : Rp G y d) (hb : ED (W0 T) tb ((eraseM env).set j (.dat d)) (emb a)) :
    tb (σ.set j (some y)) H1 fun k H'' => LamX.ExtN H1 H'' ∧ LamX.Tabs T H'' ∧ KO.KV H'' k a :=
  hb 0 _ _ _ _ _ ((A.lam e t).setD j r) _ fun v G2 H2 s g j2 r2 => ⟨extN_stp s, j2, KD.kv g r2⟩
/-- min(l, key=..): the first one with a least key -/
theorem ed_minK {KO : KeyOrd K κ} {emb : κ → D} (KD : KeyD KO emb) {te tb : TE} {env : Env'} {j i0 : Nat} {ds : List D} {d0 : D} {kf : Nat → κ} (h : ED W te env (.lst ds)) (hb : ∀ (i : Nat) (d : D), ds[i]? = some d → ED (W0 T) tb ((eraseM env).set j (.dat d)) (emb (kf i))) (hi : ds[i0]? = some d0) (hm : IsMin KO.lt kf ds.length i0) :
    ED W (tMinK K T KO j te tb) env d0 := fun c G0 H0 σ G H A Q q =>
  h c G0 H0 σ G H A _ fun v G1 H1 s1 g1 j1 r1 => by
    have A1 := A.step s1 g1 j1
    cases r1 with
    | lst ha rl =>
    rename_i a xs
    have hlen := rl.len
    refine ⟨_, rfl, W.tabs j1, fun H2 e2 t2 => ⟨a, xs, kf, rfl, sqL_of (gok_extN g1 e2) ha, fun i y H' hy e' t' => ?_, ?_, fun i y H' hy hm' e' t' => ?_⟩⟩
    · obtain ⟨d, hd, rd⟩ := rl.getV hy
      exact key_turn KD A1 (e2.trans e') t' rd (hb i d hd)
    · rw [hlen]
      exact Nat.lt_of_le_of_lt (Nat.zero_le _) (List.getElem?_eq_some_iff.mp hi).1
    · rw [hlen] at hm'
      have hil : i < ds.length := by rw [← hlen]; exact (List.getElem?_eq_some_iff.mp hy).1
      have hi0l := (List.getElem?_eq_some_iff.mp hi).1
      have e0 : i = i0 := by
        rcases Nat.lt_trichotomy i i0 with z | z | z
        · have z1 := (hm i hil).2 z
          rw [(hm' i0 hi0l).1] at z1
          cases z1
        · exact z
        · have z1 := (hm' i0 hi0l).2 z
          rw [(hm i hil).1] at z1
          cases z1
      subst e0
      obtain ⟨d, hd, rd⟩ := rl.getV hy
      rw [hi] at hd
      cases hd
      have e3 := e2.trans e'
      exact q y G1 H' (s1.trans (stp_extN g1 e3)) (gok_extN g1 e3) (J_extN j1 e3 t') rd
/-- the items by their keys -/
def sortD (lt : κ → κ → Bool) (kf : Nat → κ) (ds : List D) : List D := (isort (fun i j => lt (kf i) (kf j)) (List.range ds.length)).map fun i => ds.getD i .non
theorem rp_pick {xs : List V} {ds : List D} (r : RpL G xs ds) : ∀ {l : List Nat}, (∀ i ∈ l, i < ds.length) → RpL G (l.map fun i => xs.getD i .non) (l.map fun i => ds.getD i .non)
  | [], _ => .nil
  | i :: l, h => by
    have hi := h i List.mem_cons_self
    obtain ⟨v, hv, rv⟩ := r.get (List.getElem?_eq_getElem hi)
    refine .cons ?_ (rp_pick r fun j hj => h j (List.mem_cons_of_mem _ hj))
    have e1 : ds.getD i .non = ds[i] := by simp [List.getD_eq_getElem?_getD, hi]
    have e2 : xs.getD i .non = v := by simp [List.getD_eq_getElem?_getD, hv]
    show Rp G (xs.getD i .non) (ds.getD i .non)
    rw [e1, e2]
    exact rv
theorem ed_sortK {KO : KeyOrd K κ} {emb : κ → D} (KD : KeyD KO emb) {te tb : TE} {env : Env'} {j : Nat} {ds : List D} {kf : Nat → κ} (h : ED W te env (.lst ds)) (hb : ∀ (i : Nat) (d : D), ds[i]? = some d → ED (W0 T) tb ((eraseM env).set j (.dat d)) (emb (kf i))) :
    ED W (tSortK K T KO j te tb) env (.lst (sortD KO.lt kf ds)) := fun c G0 H0 σ G H A Q q =>
  h c G0 H0 σ G H A _ fun v G1 H1 s1 g1 j1 r1 => by
    have A1 := A.step s1 g1 j1
    cases r1 with
    | lst ha rl =>
    rename_i a xs
    have hlen := rl.len
    refine ⟨_, rfl, W.tabs j1, fun H2 e2 t2 => ⟨a, xs, kf, rfl, sqL_of (gok_extN g1 e2) ha, fun i y H' hy e' t' => ?_, fun H' p e' t' hp => ?_⟩⟩
    · obtain ⟨d, hd, rd⟩ := rl.getV hy
      exact key_turn KD A1 (e2.trans e') t' rd (hb i d hd)
    · have e3 := e2.trans e'
      have g3 := gok_extN g1 e3
      have j3 := J_extN j1 e3 t'
      have s3 := s1.trans (stp_extN g1 e3)
      have rr : RpL G1 (sortedBy KO.lt kf xs) (sortD KO.lt kf ds) := by
        unfold sortedBy sortD
        rw [hlen]
        exact rp_pick rl fun i hi => List.mem_range.mp ((isort_perm _ _).mem_iff.mp hi)
      exact q _ _ _ (s3.trans (stp_new g3 hp)) (gok_new g3 j3 hp (noTb_lst _)) (J_new j3 hp) (.lst upd_same (rr.mono (same_new (g3.none hp) _)))
/-- in plain words -/
theorem sortD_map {α : Type} {lt : κ → κ → Bool} {kf : Nat → κ} (key : α → κ) (emb : α → D) (xs : List α) (hk : ∀ (i : Nat) (x : α), xs[i]? = some x → kf i = key x) : sortD lt kf (xs.map emb) = (isort (fun x y => lt (key x) (key y)) xs).map emb := by
  cases xs with
  | nil => rfl
  | cons x0 r =>
    have e0 : ∀ l : List α, l = (List.range l.length).map fun i => l.getD i x0 := fun l => by
      apply List.ext_getElem?
      intro i
      rw [List.getElem?_map]
      by_cases hi : i < l.length
      · rw [List.getElem?_range hi, List.getElem?_eq_getElem hi]
        simp [List.getD_eq_getElem?_getD, hi]
      · rw [List.getElem?_eq_none (by omega), List.getElem?_eq_none (by simp; omega)]
        rfl
    have e1 : isort (fun x y => lt (key x) (key y)) (x0 :: r) = (isort (fun i j => lt (kf i) (kf j)) (List.range (x0 :: r).length)).map fun i => (x0 :: r).getD i x0 := by
      conv => lhs; rw [e0 (x0 :: r)]
      refine isort_map (lt' := fun i j => lt (kf i) (kf j)) (fun i => (x0 :: r).getD i x0) _ fun i hi j hj => ?_
      have hi' := List.mem_range.mp hi
      have hj' := List.mem_range.mp hj
      have gi : (x0 :: r)[i]? = some ((x0 :: r).getD i x0) := by rw [List.getD_eq_getElem?_getD, List.getElem?_eq_getElem hi']; rfl
      have gj : (x0 :: r)[j]? = some ((x0 :: r).getD j x0) := by rw [List.getD_eq_getElem?_getD, List.getElem?_eq_getElem hj']; rfl
      rw [hk i _ gi, hk j _ gj]
    rw [e1]
    unfold sortD
    rw [List.length_map, List.map_map]
    refine List.map_congr_left fun i hi => ?_
    have hi' := List.mem_range.mp ((isort_perm _ _).mem_iff.mp hi)
    show ((x0 :: r).map emb).getD i .non = emb ((x0 :: r).getD i x0)
    rw [List.getD_eq_getElem?_getD, List.getD_eq_getElem?_getD, List.getElem?_map, List.getElem?_eq_getElem hi']
    rfl
end
end Fx

set_option Elab.async false
set_option linter.all false
set_option maxRecDepth 100000
set_option maxHeartbeats 4000000
/-! Defs of the module: how they stand, what they promise. -/
namespace Fx
open PySem PySem.Spec PyProof.Rows L2 LamX C8
section
variable {P : Program} {w : World} {K : PySem.W.Frag} {mg : Str → Option Value} {base : Heap} {T : List (Addr × Str)} {W : Wld T}
/-- the def st stands under the name x; cdv: its code object -/
structure Df (K : PySem.W.Frag) (mg : Str → Option Value) (x : Str) (st : Stmt) (ps : List Str) (cdv : Value) : Prop where
  ex : ∃ (f : Addr) (oc : Value) (od : Option Addr) (kV doc pm : Value) (an : Option Addr) (ct : Value) (osl : Array (Option Value)),
    K.lookup f = some ⟨oc, od, .func (PySem.W.fnOf x x (fnArgs st) (fnBody st) (fnScope st) .none kV doc pm an cdv ct), osl⟩ ∧ PySem.W.codeIn K cdv x = true ∧ mg x = some (.ref f) ∧ PySem.W.keepIn K (.ref f) = true ∧
      Binds K (PySem.W.fnOf x x (fnArgs st) (fnBody st) (fnScope st) .none kV doc pm an cdv ct) ps []
theorem df_mk {h : Heap} {x : Str} {st : Stmt} {ps : List Str} {f : Addr} {oc : Value} {od : Option Addr} {kV doc pm : Value} {an : Option Addr} {cdv ct : Value} {osl : Array (Option Value)} (X : K.In h) (G : h.Ns mainGlobals mg)
    (a : PySem.W.nsIn K mainGlobals x = some (some (.ref f))) (l : K.lookup f = some ⟨oc, od, .func (PySem.W.fnOf x x (fnArgs st) (fnBody st) (fnScope st) .none kV doc pm an cdv ct), osl⟩) (c : PySem.W.codeIn K cdv x = true) (k : PySem.W.keepIn K (.ref f) = true)
    (hb : ∀ (us : List Value), us.length = ps.length → bindArgs (PySem.W.fnOf x x (fnArgs st) (fnBody st) (fnScope st) .none kV doc pm an cdv ct) ⟨us, []⟩ = pure (ps.zip us)) : Df K mg x st ps cdv :=
  ⟨f, oc, od, kV, doc, pm, an, ct, osl, l, c, PySem.W.mg_of X G a, k, .all hb⟩
theorem cal_of {x : Str} {st : Stmt} {N ps : List Str} {k : Nat} {sp : Sp} {cdv : Value} (F : Df K mg x st ps cdv) (S : scC N ps (fnScope st) = true) (len : ∀ vs H Q E, sp vs H Q E → vs.length = ps.length)
    (hbody : ∀ (f : Addr) (A : Around) (outer : List Env) (s : Shared) (H : Hp) (vs : List V) (Q : VK) (E : XK), Room k (A.deeper (envOfC x (fnScope st) s.heap.objs.size f cdv)) → sp vs H Q E →
      ∃ t, PSs (cxOf C8.CX0 P w K mg base N x (fnScope st) f cdv A outer s H E).nox (fnBody st) t ∧ t { nx := fun _ H' => Q .non H', rt := Q } (L2.start N vs) H) : Cal P w K mg base (k + 1) x sp [] := by
  obtain ⟨f, oc, od, kV, doc, pm, an, ct, osl, lk, hcd, hm, kp, hb⟩ := F.ex
  refine ⟨f, _, ps, [], fn_of lk hcd (fnScope_by S) len fun A outer s H vs Q E hr hsp => ?_, hm, kp, hb, .nil⟩
  obtain ⟨t, h, q⟩ := hbody f A outer s H vs Q E hr hsp
  exact ⟨t, h.nox, q⟩
/-- a def that makes data of data -/
theorem calD {x : Str} {st : Stmt} {N ps : List Str} {k : Nat} {cdv : Value} {f : List D → D → Prop} (F : Df K mg x st ps cdv) (S : scC N ps (fnScope st) = true) (len : ∀ ds d, f ds d → ds.length = ps.length)
    (hbody : ∀ (a : Addr) (A : Around) (outer : List Env) (s : Shared) (H : Hp) (E : XK), Room k (A.deeper (envOfC x (fnScope st) s.heap.objs.size a cdv)) →
      ∃ t, PSs (cxOf C8.CX0 P w K mg base N x (fnScope st) a cdv A outer s H E).nox (fnBody st) t ∧ ∀ ds d, f ds d → Tr (W0 T) t (env0 ds (N.length - ds.length)) 0 ⟨fun _ _ => d = .non, fun r _ => r = d, fun _ _ => False, fun _ _ => False, fun _ _ _ => False, fun _ _ _ => False⟩) : Cal P w K mg base (k + 1) x (SpD T f) [] := by
  have hn : ps.length ≤ N.length := by
    have := (fnScope_by S).pre
    rw [← this, List.length_take]
    omega
  refine cal_of F S (fun vs H Q E h => ?_) fun a A outer s H vs Q E hr h => ?_
  · obtain ⟨G, ds, d, _, _, r, hf, _⟩ := h
    rw [r.len, len ds d hf]
  · obtain ⟨t, ht, q⟩ := hbody a A outer s H E hr
    refine ⟨t, ht, body_D h ?_ q⟩
    obtain ⟨G, ds, d, _, _, r, hf, _⟩ := h
    rw [r.len, len ds d hf]
    exact hn
/-- a def that draws -/
theorem calS {x : Str} {st : Stmt} {N ps : List Str} {k m : Nat} {cdv : Value} {f : List D → (D → Prop) → Prop} (F : Df K mg x st ps cdv) (S : scC N ps (fnScope st) = true) (len : ∀ ds d, f ds d → ds.length = ps.length)
    (hbody : ∀ (a : Addr) (A : Around) (outer : List Env) (s : Shared) (H : Hp) (E : XK), Room k (A.deeper (envOfC x (fnScope st) s.heap.objs.size a cdv)) →
      ∃ t, PSs (cxOf C8.CX0 P w K mg base N x (fnScope st) a cdv A outer s H E).nox (fnBody st) t ∧ ∀ ds P c, f ds P → c + m ≤ CAP → Tr W t (env0 ds (N.length - ds.length)) c ⟨fun _ c2 => P .non ∧ c2 ≤ c + m, fun r c2 => P r ∧ c2 ≤ c + m, fun _ _ => False, fun _ _ => False, fun _ _ _ => False, fun _ _ _ => False⟩) : Cal P w K mg base (k + 1) x (SpS W m f) [] := by
  have hn : ps.length ≤ N.length := by
    have := (fnScope_by S).pre
    rw [← this, List.length_take]
    omega
  refine cal_of F S (fun vs H Q E h => ?_) fun a A outer s H vs Q E hr h => ?_
  · obtain ⟨G, c, ds, d, _, _, _, r, hf, _⟩ := h
    rw [r.len, len ds d hf]
  · obtain ⟨t, ht, q⟩ := hbody a A outer s H E hr
    refine ⟨t, ht, body_S h ?_ q⟩
    obtain ⟨G, c, ds, d, _, _, _, r, hf, _⟩ := h
    rw [r.len, len ds d hf]
    exact hn
end
theorem room65 {k : Nat} {A : Around} (r : Room k A) : A.units + 65 < cLine := by have := r.un; omega
section
variable {X : Cx}
theorem pe_cI {x : Str} {i : Int} {pos : Pos} (hg : Gl X x) (hm : ∃ t, X.mg x = some (.int i t)) (hd : (x == ("__debug__" : Str)) = false := by decide) : PE X (.Name x pos) (tC (.int i)) :=
  let ⟨t, h⟩ := hm; pe_glob hg h ⟨t, rfl⟩ hd
theorem pe_cS {x s : Str} {pos : Pos} (hg : Gl X x) (hm : ∃ t, X.mg x = some (.str s t)) (hd : (x == ("__debug__" : Str)) = false := by decide) : PE X (.Name x pos) (tC (.str s)) :=
  let ⟨t, h⟩ := hm; pe_glob hg h ⟨t, rfl⟩ hd
/-- a body's promise of nothing -/
theorem cal_none {P : Program} {w : World} {K : PySem.W.Frag} {mg : Str → Option Value} {base : Heap} {T : List (Addr × Str)} {x : Str} {st : Stmt} {ps : List Str} {k : Nat} {cdv : Value} {f : List D → D → Prop} (F : Df K mg x st ps cdv) (no : ∀ ds d, ¬ f ds d) : Cal P w K mg base k x (SpD T f) [] := by
  obtain ⟨f, oc, od, kV, doc, pm, an, ct, osl, lk, hcd, hm, kp, hb⟩ := F.ex
  exact ⟨f, _, ps, [], ⟨fun vs H Q E h => (by obtain ⟨G, ds, d, _, _, r, hf, _⟩ := h; exact absurd hf (no ds d)), fun A outer s H args us vs Q E _ _ _ _ h => (by obtain ⟨G, ds, d, _, _, r, hf, _⟩ := h; exact absurd hf (no ds d))⟩, hm, kp, hb, .nil⟩
end
end Fx

set_option Elab.async false
set_option linter.all false
set_option maxRecDepth 100000
set_option maxHeartbeats 4000000
/-! Comprehensions over a name or a pair, in short; the least and the greatest of ints; sorted ints. -/
namespace Fx
open PySem PySem.Spec PyProof.Rows L2
section
variable {T : List (Addr × Str)} {W : Wld T} {G H G1 H1 G2 H2 H0 : Hp} {G0 : Hp × Hp} {c c' k : Nat} {K : PySem.W.Frag}
theorem et_yes {env : Env'} : ET W tYes env true := fun c G0 H0 σ G H A Q q => q G H Stp.refl A.gok A.j
section
variable {α : Type} {wi : TI} {tt : TT} {te : TE} {env : Env'}
theorem set1 {env : Env'} {j : Nat} {s : Slot} : (wipeE env [j]).set j s = env.set j s := by
  show (env.set j .emp).set j s = _
  rw [List.set_set]
theorem set2 {env : Env'} {i j : Nat} {s t : Slot} (ne : i ≠ j) : ((wipeE env [i, j]).set i s).set j t = (env.set i s).set j t := by
  show (((env.set j .emp).set i .emp).set i s).set j t = _
  rw [List.set_set, List.set_comm _ _ ne.symm, List.set_set]
theorem ed_lc1 (xs : List α) (emb : α → D) (f : α → Bool) (g : α → D) {j : Nat} (hs : Src W wi env (xs.map emb)) (hz : xs.length ≤ 100000) (ht : ∀ x ∈ xs, ET W tt (env.set j (.dat (emb x))) (f x)) (he : ∀ x ∈ xs, f x = true → ED W te (env.set j (.dat (emb x))) (g x)) :
    ED W (tLc wi (gName j) tt te [j]) env (.lst ((xs.filter f).map g)) :=
  ed_lc xs emb (fun d => env.set j (.dat d)) f g hs hz (fun x _ => by have := tgc_name (W := W) (d := emb x) (env := wipeE env [j]) (j := j) (vs := [j]) List.mem_cons_self; rwa [set1] at this) ht he
theorem ed_map1 (xs : List α) (emb : α → D) (g : α → D) {j : Nat} (hs : Src W wi env (xs.map emb)) (hz : xs.length ≤ 100000) (he : ∀ x ∈ xs, ED W te (env.set j (.dat (emb x))) (g x)) :
    ED W (tLc wi (gName j) tYes te [j]) env (.lst (xs.map g)) :=
  (ed_lc1 xs emb (fun _ => true) g hs hz (fun _ _ => et_yes) fun x hx _ => he x hx).eq (by rw [List.filter_eq_self.mpr fun _ _ => rfl])
theorem ed_lc2 (xs : List α) (e1 e2 : α → D) (f : α → Bool) (g : α → D) {i j : Nat} (hs : Src W wi env (xs.map fun x => .tup [e1 x, e2 x])) (hz : xs.length ≤ 100000) (ne : i ≠ j) (ht : ∀ x ∈ xs, ET W tt ((env.set i (.dat (e1 x))).set j (.dat (e2 x))) (f x))
    (he : ∀ x ∈ xs, f x = true → ED W te ((env.set i (.dat (e1 x))).set j (.dat (e2 x))) (g x)) : ED W (tLc wi (gTup K 2 (gCons (gName i) (gCons (gName j) gNil))) tt te [i, j]) env (.lst ((xs.filter f).map g)) :=
  ed_lc xs (fun x => .tup [e1 x, e2 x]) (fun d => match d with | .tup [a, b] => (env.set i (.dat a)).set j (.dat b) | _ => env) f g hs hz
    (fun x _ => by
      have := tgc_tup2 (W := W) (K := K) (d1 := e1 x) (d2 := e2 x) (env := wipeE env [i, j]) (i := i) (j := j) (vs := [i, j]) List.mem_cons_self (List.mem_cons_of_mem _ List.mem_cons_self)
      rwa [set2 ne] at this) ht he
theorem ed_map2 (xs : List α) (e1 e2 : α → D) (g : α → D) {i j : Nat} (hs : Src W wi env (xs.map fun x => .tup [e1 x, e2 x])) (hz : xs.length ≤ 100000) (ne : i ≠ j) (he : ∀ x ∈ xs, ED W te ((env.set i (.dat (e1 x))).set j (.dat (e2 x))) (g x)) :
    ED W (tLc wi (gTup K 2 (gCons (gName i) (gCons (gName j) gNil))) tYes te [i, j]) env (.lst (xs.map g)) :=
  (ed_lc2 xs e1 e2 (fun _ => true) g hs hz ne (fun _ _ => et_yes) fun x hx _ => he x hx).eq (by rw [List.filter_eq_self.mpr fun _ _ => rfl])
end
theorem src_eq {wi : TI} {env : Env'} {l l' : List D} (h : Src W wi env l) (e : l = l') : Src W wi env l' := e ▸ h
/-- min, max of a list of ints -/
theorem rdl_minL {ns : List Int} {m : Int} (hm : m ∈ ns) (hle : ∀ y ∈ ns, m ≤ y) : RDL W (rMin K) [dLI ns] (.int m) := fun c G H vs g j r Q q => by
  cases r with
  | cons r1 r2 =>
  cases r2
  cases r1 with
  | lst h rl =>
  rw [RpL.ints rl] at h
  refine ⟨_, ns, rfl, sqL_of g h, List.length_pos_of_mem hm, fun m' hm' hle' => ?_⟩
  have e : m' = m := Int.le_antisymm (hle' m hm) (hle m' hm')
  rw [e]
  exact q.here g j (.int m)
theorem rdl_maxL {ns : List Int} {m : Int} (hm : m ∈ ns) (hle : ∀ y ∈ ns, y ≤ m) : RDL W (rMax K) [dLI ns] (.int m) := fun c G H vs g j r Q q => by
  cases r with
  | cons r1 r2 =>
  cases r2
  cases r1 with
  | lst h rl =>
  rw [RpL.ints rl] at h
  refine ⟨_, ns, rfl, sqL_of g h, List.length_pos_of_mem hm, fun m' hm' hle' => ?_⟩
  have e : m' = m := Int.le_antisymm (hle m' hm') (hle' m hm)
  rw [e]
  exact q.here g j (.int m)
/-- ints ascending -/
def isI (ns : List Int) : List Int := isort (fun a b => decide (a < b)) ns
theorem isI_perm (ns : List Int) : (isI ns).Perm ns := isort_perm _ _
theorem isI_asc (ns : List Int) : (isI ns).Pairwise (· ≤ ·) := by
  have h := isort_srtd swo_int ns
  refine List.Pairwise.imp ?_ h
  intro a b q
  have q : decide (b < a) = false := q
  simpa using q
theorem asc_uniq : ∀ {l m : List Int}, l.Pairwise (· ≤ ·) → m.Pairwise (· ≤ ·) → l.Perm m → l = m := by
  intro l m h1 h2 p
  exact p.eq_of_pairwise (fun a b _ _ h h' => Int.le_antisymm h h') h1 h2
theorem rdl_sortI {ns : List Int} : RDL W (rSortedI K) [dLI ns] (dLI (isI ns)) := fun c G H vs g j r Q q => by
  cases r with
  | cons r1 r2 =>
  cases r2
  cases r1 with
  | lst h rl =>
  rw [RpL.ints rl] at h
  refine ⟨_, ns, rfl, sqL_of g h, fun ns' p pm pw hp => ?_⟩
  have e : ns' = isI ns := asc_uniq pw (isI_asc ns) (pm.trans (isI_perm ns).symm)
  rw [e]
  exact q.newL g j hp (RpL.of_ints _)
/-- tuple(t) -/
theorem rdl_tupT {ds : List D} : RDL W (fun xs H Q => ∃ p ys, xs = [.ref p] ∧ ((SqL K H p ys ∧ ∀ l, H l = none → Q (.ref l) (upd H l (.tup ys))) ∨ (SqT K H p ys ∧ Q (.ref p) H))) [.tup ds] (.tup ds) := fun c G H vs g j r Q q => by
  cases r with
  | cons r1 r2 =>
  cases r2
  cases r1 with
  | tup h rl => exact ⟨_, _, rfl, .inr ⟨sqT_of g h, q.here g j (.tup h rl)⟩⟩
/-- x += e -/
theorem tr_aug1 {te : TE} {env : Env'} {po : Po} {i : Nat} {f : Int → Int → Int} {a b : Int} (he : env[i]? = some (.dat (.int a))) (h : ED W te env (.int b)) (k : po.nx (env.set i (.dat (.int (f a b)))) c) : Tr W (tAug i te (ipI f)) env c po := fun G0 H0 σ G H A E F => by
  obtain ⟨v, hv, r⟩ := A.env.dat _ _ he
  refine ⟨v, hv, h c G0 H0 σ G H A _ fun u G1 H1 s1 g1 j1 r1 => ?_⟩
  cases r
  cases r1
  exact ⟨a, b, rfl, rfl, F.nx _ _ _ _ _ ((A.step s1 g1 j1).setD i (.int _)) k⟩
end
end Fx

set_option Elab.async false
set_option linter.all false
set_option maxRecDepth 100000
set_option maxHeartbeats 4000000
/-! The hand layer's rules with the form's name K told, for blocks within blocks. -/
namespace Fx
open PySem PySem.Spec PyProof.Rows L2
section
variable {X : Cx} (K : PySem.W.Frag)
theorem kin (h : X.K = K := by rfl) : OpR X (compareOp .In) (rIn K false) := by subst h; exact op_in_seq
theorem knin (h : X.K = K := by rfl) : OpR X (compareOp .NotIn) (rIn K true) := by subst h; exact op_notIn_seq
theorem kcatA (h : X.K = K := by rfl) : OpR X (binaryOp .Add) (rCatA K) := by subst h; exact op_catA
theorem keq (hu : X.A.units + 64 < cLine) (h : X.K = K := by rfl) : OpR X (compareOp .Eq) (rEqD K) := by subst h; exact op_eqD hu
theorem kne (hu : X.A.units + 64 < cLine) (h : X.K = K := by rfl) : OpR X (compareOp .NotEq) (rNeD K) := by subst h; exact op_neD hu
theorem kinD (hu : X.A.units + 65 < cLine) (h : X.K = K := by rfl) : OpR X (compareOp .In) (rInD K) := by subst h; exact op_inD hu
theorem kix (h : X.K = K := by rfl) : IxR X (rIx K) := by subst h; exact ix_seq
theorem ksl (h : X.K = K := by rfl) : L2.SlR X (rSlL K) := by subst h; exact sl_list
theorem kslA (h : X.K = K := by rfl) : L2.SlR X (rSlA K) := by subst h; exact sl_tupA
theorem kany (hc : X.calm = true) (h : X.K = K := by rfl) : CallR X (.builtin "any") (rAny K) := by subst h; exact cr_any hc
theorem kall (hc : X.calm = true) (h : X.K = K := by rfl) : CallR X (.builtin "all") (rAll K) := by subst h; exact cr_all hc
theorem kmin (hc : X.calm = true) (h : X.K = K := by rfl) : CallR X (.builtin "min") (rMin K) := by subst h; exact cr_min hc
theorem kmax (hc : X.calm = true) (h : X.K = K := by rfl) : CallR X (.builtin "max") (rMax K) := by subst h; exact cr_max hc
theorem ksort (h : X.K = K := by rfl) : CallR X (.builtin "sorted") (rSortedI K) := by subst h; exact cr_sortedI
theorem klen (h : X.K = K := by rfl) : CallR X (.builtin "len") (fun xs H Q => ∃ p ys, xs = [.ref p] ∧ (SqL K H p ys ∨ SqT K H p ys) ∧ Q (.int ys.length) H) := by subst h; exact call_len_seq
theorem kisi (h : X.K = K := by rfl) : CallR X (.builtin "isinstance") (rIsi K) := by subst h; exact call_isi
theorem kisiT (h : X.K = K := by rfl) : CallR X (.builtin "isinstance") (rIsiT K) := by subst h; exact call_isiT
theorem klist (h : X.K = K := by rfl) : CallR X (.type "list") (fun xs H Q => ∃ p ys, xs = [.ref p] ∧ (SqL K H p ys ∨ SqT K H p ys) ∧ ∀ l, H l = none → Q (.ref l) (upd H l (.lst ys))) := by subst h; exact call_list_of
theorem ktuple (h : X.K = K := by rfl) : CallR X (.type "tuple") (fun xs H Q => ∃ p ys, xs = [.ref p] ∧ ((SqL K H p ys ∧ ∀ l, H l = none → Q (.ref l) (upd H l (.tup ys))) ∨ (SqT K H p ys ∧ Q (.ref p) H))) := by subst h; exact call_tuple_of
theorem kpi_list {tg l : Expr} {tl : TE} (hl : PE X l tl) (h : X.K = K := by rfl) : PI X tg l (iList K tl) := by subst h; exact pi_list hl
theorem kpi_tup {tg l : Expr} {tl : TE} (hl : PE X l tl) (h : X.K = K := by rfl) : PI X tg l (iTup K tl) := by subst h; exact pi_tup hl
theorem kpi_enum {e : Expr} {ta : TA} {p pos tpos : Pos} {elts : List Expr} {kk : Nat} (hg : Gl X "enumerate") (hm : X.mg "enumerate" = none) (ha : PA X [e] ta) (hs : starEach [e] X.env = [(false, eval e X.env)] := by rfl) (h : X.K = K := by rfl) :
    PI X (.Tuple elts kk tpos) (.Call (.Name "enumerate" p) [e] [] pos) (iEnum K ta) := by subst h; exact pi_enum hg hm ha hs
theorem kpi_zip {e e2 : Expr} {ta : TA} {p pos tpos : Pos} {elts : List Expr} {kk : Nat} (hg : Gl X "zip") (hm : X.mg "zip" = none) (ha : PA X [e, e2] ta)
    (hs : starEach [e, e2] X.env = (false, eval e X.env) :: starEach [e2] X.env := by rfl) (hpl : (backTo pos (starEach [e2] X.env)).any (·.1) = false := by rfl) (h : X.K = K := by rfl) :
    PI X (.Tuple elts kk tpos) (.Call (.Name "zip" p) [e, e2] [] pos) (RZ.iZipA K ta) := by subst h; exact RZ.pi_zipA hg hm ha hs hpl
theorem kstar {e : Expr} {es : List Expr} {p : Pos} {te : TE} {t : TA} (he : PE X e te) (hr : PA X es t) (hs : starEach (.Starred e p :: es) X.env = (true, eval e X.env) :: starEach es X.env := by rfl) (h : X.K = K := by rfl) : PA X (.Starred e p :: es) (StX.tStar K te t) := by subst h; exact StX.pa_star he hr hs
end
end Fx

set_option Elab.async false
set_option linter.all false
set_option maxRecDepth 100000
set_option maxHeartbeats 4000000
/-! Dicts as data: made by a comprehension, locked for good, read, walked. -/
namespace Fx
open PySem PySem.Spec PyProof.Rows L2
/-- what is made is locked for good -/
def tFrz (t : TE) : TE := fun σ H Q => t σ H fun v H' => ∃ d u, v = .ref d ∧ H' d = some u ∧ Mut (some u) ∧ ∀ od, Q v (upd H' d (.frz od u))
theorem pe_frz {X : Cx} {e : Expr} {t : TE} (h : PE X e t) : PE X e (tFrz t) := by
  refine ⟨fun pins s σ H Q I hw => ?_⟩
  refine thn (h.run pins s σ H _ I hw) fun v s1 ⟨x, H1, I1, r, d, u, ex, hd, mu, q⟩ => ?_
  subst ex
  obtain ⟨od, I2⟩ := I1.lock hd mu
  exact ⟨.ref d, _, I2, r, q od⟩
theorem klenD {X : Cx} : CallR X (.builtin "len") (fun xs H Q => ∃ a kvs, xs = [V.ref a] ∧ Rd H a (.dK kvs) ∧ Q (.int kvs.length) H) := by
  intro pins s σ H xs us Q I r h
  obtain ⟨a, kvs, rfl, ha, q⟩ := h
  obtain ⟨u, rfl, ru⟩ := vals1 r
  cases ru
  exact d_len I ha fun t s' I' => ⟨.int kvs.length, H, I', ⟨t, rfl⟩, q⟩
def kD : Key → D
  | .inl i => .int i
  | .inr s => .str s
theorem rp_key {G : Hp} : ∀ {k : Key}, Rp G (kV k) (kD k)
  | .inl i => .int i
  | .inr s => .str s
def lkD (kds : List (Key × D)) (k : Key) : Option D := (kds.find? fun kv => decide (kv.1 = k)).map (·.2)
theorem RpK.len {G : Hp} : ∀ {vs : List (Key × V)} {ds : List (Key × D)}, RpK G vs ds → vs.length = ds.length
  | _, _, .nil => rfl
  | _, _, .cons _ r => congrArg (· + 1) (RpK.len r)
theorem RpK.app {G : Hp} : ∀ {vs ws : List (Key × V)} {ds es : List (Key × D)}, RpK G vs ds → RpK G ws es → RpK G (vs ++ ws) (ds ++ es)
  | _, _, _, _, .nil, s => s
  | _, _, _, _, .cons h r, s => .cons h (RpK.app r s)
theorem RpK.lk {G : Hp} {k : Key} {d : D} : ∀ {vs : List (Key × V)} {ds : List (Key × D)}, RpK G vs ds → lkD ds k = some d → ∃ v, valV vs k = some v ∧ Rp G v d
  | _, _, .nil, e => by simp [lkD] at e
  | _, _, .cons (k := k') (v := v) (vs := vs) (d := d') (ds := ds) h r, e => by
    by_cases ek : k' = k
    · refine ⟨v, valV_pos ek, ?_⟩
      have : lkD ((k', d') :: ds) k = some d' := by simp [lkD, List.find?_cons, ek]
      rw [this] at e
      cases e
      exact h
    · have : lkD ((k', d') :: ds) k = lkD ds k := by simp [lkD, List.find?_cons, ek]
      rw [this] at e
      obtain ⟨w, h1, h2⟩ := RpK.lk r e
      exact ⟨w, by rw [valV_neg ek]; exact h1, h2⟩
theorem RpK.keys {G : Hp} : ∀ {vs : List (Key × V)} {ds : List (Key × D)}, RpK G vs ds → vs.map (·.1) = ds.map (·.1)
  | _, _, .nil => rfl
  | _, _, .cons _ r => by rw [List.map_cons, List.map_cons, RpK.keys r]
section
variable {T : List (Addr × Str)} {W : Wld T} {G H G1 H1 G2 H2 H0 : Hp} {G0 : Hp × Hp} {c c' k : Nat} {K : PySem.W.Frag}
theorem its_keys {d : Addr} {o : Obj} {kvs : List (Key × V)} {kds : List (Key × D)} (h : G d = some (.frz o (.dK kvs))) (r : RpK G kvs kds) : Its W (Itk d o kvs) G (kds.map fun p => kD p.1) := by
  have hl := r.len
  have hk := r.keys
  refine ⟨fun i G2 H2 g e _ hi => ⟨g.same _ _ (e _ _ h), by rw [hl]; simpa using hi⟩, fun i G2 H2 g e _ hi => ⟨g.same _ _ (e _ _ h), by rw [hl]; simpa using hi⟩, fun i d' c G2 H2 x H' g e j hd y => ?_⟩
  obtain ⟨rfl, k, v, hk1, rfl⟩ := y
  refine ⟨G2, Stp.refl, g, j, ?_⟩
  rw [List.getElem?_map] at hd
  have e1 : (kvs.map (·.1))[i]? = some k := by rw [List.getElem?_map, hk1]; rfl
  rw [hk, List.getElem?_map] at e1
  cases q : kds[i]? with
  | none => rw [q] at e1; cases e1
  | some p =>
    rw [q] at e1 hd
    cases e1
    cases hd
    exact rp_key
theorem src_keys {td : TE} {env : Env'} {kds : List (Key × D)} (h : ED W td env (.dic kds)) : Src W (iKeys td) env (kds.map fun p => kD p.1) := fun c G0 H0 σ G H A R q =>
  h c G0 H0 σ G H A _ fun v G1 H1 s1 g1 j1 r1 => by
    cases r1 with
    | dic h1 l1 => exact ⟨_, _, rfl, .inl ⟨_, g1.same _ _ h1, q _ _ _ s1 g1 j1 (its_keys h1 l1)⟩⟩
theorem ed_dget {td ty : TE} {env : Env'} {kds : List (Key × D)} {k : Key} {d : D} (h : ED W td env (.dic kds)) (hy : ED W ty env (kD k)) (e : lkD kds k = some d) : ED W (tDGet td ty) env d := fun c G0 H0 σ G H A Q q =>
  h c G0 H0 σ G H A _ fun v G1 H1 s1 g1 j1 r1 => hy c G0 H0 σ G1 H1 (A.step s1 g1 j1) _ fun v2 G2 H2 s2 g2 j2 r2 => by
    cases r1 with
    | dic h1 l1 =>
      obtain ⟨w, e1, e2⟩ := l1.lk e
      have ek : v2 = kV k := by
        cases k with
        | inl i => cases r2; rfl
        | inr i => cases r2; rfl
      exact ⟨_, _, rfl, .inl ⟨_, k, .inr ⟨_, g2.same _ _ (s2.gg _ _ h1)⟩, ek, e1.symm⟩, q _ G2 H2 (s1.trans s2) g2 j2 (e2.mono s2.gg)⟩
theorem rdl_lenD {kds : List (Key × D)} : RDL W (fun xs H Q => ∃ a kvs, xs = [V.ref a] ∧ Rd H a (.dK kvs) ∧ Q (.int kvs.length) H) [.dic kds] (.int kds.length) := fun c G H vs g j r Q q => by
  cases r with
  | cons r1 r2 =>
  cases r2
  cases r1 with
  | dic h1 l1 => exact ⟨_, _, rfl, .inr ⟨_, g.same _ _ h1⟩, q.here g j (by rw [l1.len]; exact .int _)⟩
/-- {k: v for x in xs}, the keys differ -/
theorem ed_dc {α : Type} (xs : List α) (emb : α → D) (envT : D → Env') (key : α → Key) (g : α → D) {wi : TI} {tg : TG} {tk te : TE} {vs : List Nat} {env : Env'} (hs : Src W wi env (xs.map emb)) (hz : xs.length ≤ 100000)
    (htg : ∀ x ∈ xs, TgC W tg vs (emb x) (wipeE env vs) (envT (emb x))) (hk : ∀ x ∈ xs, ED W tk (envT (emb x)) (kD (key x))) (he : ∀ x ∈ xs, ED W te (envT (emb x)) (g x)) (hn : (xs.map key).Nodup) :
    ED W (tFrz (tDc wi tg tYes tk te vs)) env (.dic (xs.map fun x => (key x, g x))) := by
  intro c G0 H0 σ G H A Q q
  refine hs c G0 H0 σ G H A _ fun J G1 H1 s1 g1 j1 its => ?_
  intro Dl hD
  have gD : G1 Dl = none := g1.none hD
  have mD : ¬ W.M Dl := fun m => W.mtr j1 m (nf_none hD)
  have nD := nf_none hD
  refine ⟨fun i m H' => m = xs.length - i ∧ i ≤ xs.length ∧ ∃ (G' : Hp) (acc : List (Key × V)), Stp W G1 H1 G' H' ∧ GOk W G' H' ∧ W.J c H' ∧ H' Dl = some (.dK acc) ∧ G' Dl = none ∧ RpK G' acc ((xs.take i).map fun x => (key x, g x)),
    ⟨xs.length, by simp, Nat.zero_le _, G1, [], stp_upd Stp.refl nD (noTb_dK _), gok_upd g1 gD, J_new j1 hD, upd_same, gD, .nil⟩, ?_⟩
  rintro i m H' ⟨rfl, hi, G', acc, s', g', j', hDl, gDl, rA⟩
  by_cases hlt : i < xs.length
  · refine .inr ⟨its.go i G' H' g' s'.gg ⟨_, j'⟩ (by simpa using hlt), fun H'' => i + 1 ≤ xs.length ∧ ∃ (G' : Hp) (acc : List (Key × V)), Stp W G1 H1 G' H'' ∧ GOk W G' H'' ∧ W.J c H'' ∧ H'' Dl = some (.dK acc) ∧ G' Dl = none ∧ RpK G' acc ((xs.take (i + 1)).map fun x => (key x, g x)),
      fun H'' h => ⟨xs.length - (i + 1), by omega, rfl, h⟩, fun x H2 hy => ?_⟩
    have hx : (xs.map emb)[i]? = some (emb xs[i]) := by rw [List.getElem?_map, List.getElem?_eq_getElem hlt]; rfl
    obtain ⟨G2, s2, g2, j2, r2⟩ := its.yld i _ _ G' H' x H2 g' s'.gg j' hx hy
    have hmem : xs[i] ∈ xs := List.getElem_mem hlt
    have A2 := ((A.step s1 g1 j1).step (s'.trans s2) g2 j2).wipe vs
    refine htg _ hmem _ _ _ _ _ _ x A2 r2 _ fun σ3 w3 A3 => ⟨w3.trans wipe_wipe, ?_⟩
    refine et_yes _ _ _ _ _ _ A3 _ fun G3 H3 s3 g3 j3 => ?_
    refine (if_pos rfl).mpr ?_
    refine hk _ hmem _ _ _ _ _ _ (A3.step s3 g3 j3) _ fun y G4 H4 s4 g4 j4 r4 => ?_
    refine he _ hmem _ _ _ _ _ _ ((A3.step s3 g3 j3).step s4 g4 j4) _ fun z G5 H5 s5 g5 j5 r5 => ?_
    have d2 := s2.hh Dl _ hDl mD (noTb_dK _)
    have d3 := s3.hh Dl _ d2 mD (noTb_dK _)
    have d4 := s4.hh Dl _ d3 mD (noTb_dK _)
    have d5 := s5.hh Dl _ d4 mD (noTb_dK _)
    have n2 := s2.gone gDl hDl (noTb_dK _)
    have n3 := s3.gone n2 d2 (noTb_dK _)
    have n4 := s4.gone n3 d3 (noTb_dK _)
    have n5 := s5.gone n4 d4 (noTb_dK _)
    have rA5 := (((rA.mono s2.gg).mono s3.gg).mono s4.gg).mono s5.gg
    have ek : y = kV (key xs[i]) := by
      cases h : key xs[i] with
      | inl i => rw [h] at r4; cases r4; rfl
      | inr i => rw [h] at r4; cases r4; rfl
    have hacc : acc.length = i := by rw [rA.len, List.length_map, List.length_take]; omega
    have hnew : valV acc (key xs[i]) = none := by
      cases hv : valV acc (key xs[i]) with
      | none => rfl
      | some w =>
        exfalso
        have hin : key xs[i] ∈ acc.map (·.1) := by
          unfold valV at hv
          cases hf : acc.find? fun kv => decide (kv.1 = key xs[i]) with
          | none => rw [hf] at hv; cases hv
          | some p =>
            have h1 := List.mem_of_find?_eq_some hf
            have h2 : p.1 = key xs[i] := by have := List.find?_some hf; simpa using this
            exact List.mem_map.mpr ⟨p, h1, h2⟩
        rw [rA.keys, List.map_map] at hin
        obtain ⟨z, hz1, hz2⟩ := List.mem_map.mp hin
        obtain ⟨jj, hj, ej⟩ := List.mem_iff_getElem.mp hz1
        rw [List.length_take] at hj
        rw [List.getElem_take] at ej
        have hz2 : key z = key xs[i] := hz2
        have hj' : jj < xs.length := by omega
        have e1 : (xs.map key)[jj]'(by simpa using hj') = (xs.map key)[i]'(by simpa using hlt) := by
          rw [List.getElem_map, List.getElem_map, ej, hz2]
        have := List.pairwise_iff_getElem.mp hn jj i (by simpa using hj') (by simpa using hlt) (by omega)
        exact this e1
    refine ⟨acc, key xs[i], ek, d5, Nat.lt_of_lt_of_le (Nat.lt_of_le_of_lt (by omega : acc.length ≤ 100000) (by decide : 100000 < 100001)) (by decide), hlt, G5, acc ++ [(key xs[i], z)], ?_, gok_upd g5 n5, ?_, ?_, n5, ?_⟩
    · exact stp_upd ((((s'.trans s2).trans s3).trans s4).trans s5) nD (noTb_dK _)
    · rw [putK_new _ hnew]
      exact W.upddk j5 mD d5
    · rw [putK_new _ hnew]; exact upd_same
    · rw [List.take_succ_eq_append_getElem hlt, List.map_append]
      exact rA5.app (.cons r5 .nil)
  · have e : i = xs.length := by omega
    subst e
    refine .inl ⟨its.stop _ G' H' g' s'.gg ⟨_, j'⟩ (by simp), Dl, _, rfl, hDl, True.intro, fun od => ?_⟩
    rw [List.take_length] at rA
    have hDn : Nf H Dl := s1.dom Dl nD
    exact q (.ref Dl) (upd G' Dl (.frz od (.dK acc))) (upd H' Dl (.frz od (.dK acc))) (stp_frz (stp_upd (s1.trans s') hDn (noTb_frz _ _)) hDn gDl) (gok_frz (gok_upd g' gDl) upd_same (noTb_frz _ _) mD) (W.upddk j' mD hDl) (.dic upd_same (rA.mono (same_new gDl _)))
end
end Fx

set_option Elab.async false
set_option linter.all false
set_option maxRecDepth 100000
set_option maxHeartbeats 4000000
/-! The law's script and its draws: worlds. -/
namespace Fx
open PySem PySem.Spec PyProof.Rows L2
section
variable {T : List (Addr × Str)} {G H G1 H1 G2 H2 H0 : Hp} {G0 : Hp × Hp} {c c' k : Nat} {K : PySem.W.Frag}
theorem sqL_at {H H' : Hp} {a : Addr} {xs : List V} (e : H' a = H a) (h : SqL K H a xs) : SqL K H' a xs := by
  unfold SqL Rd at h ⊢
  rw [e]
  exact h
/-- the script at a -/
def WS (T : List (Addr × Str)) (K : PySem.W.Frag) (a : Addr) (ns : List Int) (Pm : Prop) : Wld T where
  M := fun b => b = a ∧ Pm
  J := fun _ H => LamX.Tabs T H ∧ (Pm → ∃ o, H a = some o ∧ NoTb o ∧ SqL K H a (ns.map V.int)) ∧ (¬ Pm → ∀ H', SqL K H' a (ns.map V.int))
  tabs := fun h => h.1
  mono := fun _ h => h
  pure := fun ⟨t, h1, h2⟩ e t' => ⟨t', fun p => let ⟨o, ho, n, q⟩ := h1 p; ⟨o, e _ _ ho n, n, sqL_at (by rw [ho, e _ _ ho n]) q⟩, h2⟩
  mtr := fun ⟨t, h1, h2⟩ ⟨e, p⟩ nf => let ⟨o, ho, n, q⟩ := h1 p; nf_no ho n (e ▸ nf)
  updl := fun {c H l xs ys} ⟨t, h1, h2⟩ m hl => ⟨tabs_upd t hl, fun p => by
    obtain ⟨o, ho, n, q⟩ := h1 p
    have ne : a ≠ l := fun z => m ⟨z.symm, p⟩
    exact ⟨o, by rw [upd_ne ne]; exact ho, n, sqL_at (upd_ne ne) q⟩, h2⟩
  upddk := fun {c H l xs o'} ⟨t, h1, h2⟩ m hl => ⟨tabs_updd t hl, fun p => by
    obtain ⟨o, ho, n, q⟩ := h1 p
    have ne : a ≠ l := fun z => m ⟨z.symm, p⟩
    exact ⟨o, by rw [upd_ne ne]; exact ho, n, sqL_at (upd_ne ne) q⟩, h2⟩
theorem ws_sq {a : Addr} {ns : List Int} {Pm : Prop} (j : (WS T K a ns Pm).J c H) : SqL K H a (ns.map V.int) := by
  by_cases p : Pm
  · obtain ⟨o, _, _, q⟩ := j.2.1 p; exact q
  · exact j.2.2 p H
theorem ws_start {a : Addr} {ns : List Int} (t : LamX.Tabs T H) (h : SqL K H a (ns.map V.int)) : (WS T K a ns (Rd H a (.lst (ns.map V.int)))).J c H := by
  refine ⟨t, fun p => ?_, fun n H' => ?_⟩
  · rcases p with p | ⟨o, p⟩
    · exact ⟨_, p, noTb_lst _, h⟩
    · exact ⟨_, p, noTb_frz _ _, h⟩
  · rcases h with h | h
    · exact absurd h n
    · exact .inr h

/-- what the draws' dict holds -/
def stD (lw lc : Addr) (r t : Int) : List (Key × V) := [(.inr "wide", .ref lw), (.inr "cells", .ref lc), (.inr "rest", .int r), (.inr "turn", .int t)]
structure DrSt (MW : Addr → Prop) (S lw lc : Addr) (cells : List Int) (c : Nat) (H : Hp) (ws : List Int) (r t : Int) : Prop where
  s : H S = some (.dK (stD lw lc r t))
  w : H lw = some (.lst (ws.map V.int))
  l : H lc = some (.lst (cells.map V.int))
  w0 : ∀ x ∈ ws, 0 ≤ x
  r0 : 0 ≤ r
  t0 : 0 ≤ t
  tc : t ≤ c
  ne : lw ≠ lc
  mS : ¬ MW S
  mw : ¬ MW lw
def WDr (W : Wld T) (S lw lc : Addr) (cells : List Int) : Wld T where
  M := fun b => W.M b ∨ b = S ∨ b = lw ∨ b = lc
  J := fun c H => W.J c H ∧ ∃ ws r t, DrSt W.M S lw lc cells c H ws r t
  tabs := fun h => W.tabs h.1
  mono := fun hc ⟨h, ws, r, t, d⟩ => ⟨W.mono hc h, ws, r, t, { d with tc := Int.le_trans d.tc (by omega) }⟩
  pure := fun ⟨h, ws, r, t, d⟩ e tb => ⟨W.pure h e tb, ws, r, t, { d with s := e _ _ d.s (noTb_dK _), w := e _ _ d.w (noTb_lst _), l := e _ _ d.l (noTb_lst _) }⟩
  mtr := fun ⟨h, ws, r, t, d⟩ m nf => by
    rcases m with m | rfl | rfl | rfl
    · exact W.mtr h m nf
    · exact nf_no d.s (noTb_dK _) nf
    · exact nf_no d.w (noTb_lst _) nf
    · exact nf_no d.l (noTb_lst _) nf
  updl := fun {c H l xs ys} ⟨h, ws, r, t, d⟩ m hl => ⟨W.updl h (fun z => m (.inl z)) hl, ws, r, t, { d with
    s := by rw [upd_ne (fun z => m (.inr (.inl z.symm)))]; exact d.s
    w := by rw [upd_ne (fun z => m (.inr (.inr (.inl z.symm))))]; exact d.w
    l := by rw [upd_ne (fun z => m (.inr (.inr (.inr z.symm))))]; exact d.l }⟩
  upddk := fun {c H l xs ys} ⟨h, ws, r, t, d⟩ m hl => ⟨W.upddk h (fun z => m (.inl z)) hl, ws, r, t, { d with
    s := by rw [upd_ne (fun z => m (.inr (.inl z.symm)))]; exact d.s
    w := by rw [upd_ne (fun z => m (.inr (.inr (.inl z.symm))))]; exact d.w
    l := by rw [upd_ne (fun z => m (.inr (.inr (.inr z.symm))))]; exact d.l }⟩
/-- a thing of the world is changed -/
theorem stp_w {W : Wld T} {a : Addr} {o : HO} (m : W.M a) (n : NoTb o) : Stp W G H G (upd H a o) :=
  ⟨fun _ _ h => h, fun b u h nm _ => by rw [upd_ne (fun (z : b = a) => nm (by rw [z]; exact m))]; exact h, fun _ h => .inl h, fun b h => by
    by_cases e : b = a
    · exact absurd h (by rw [e]; exact nf_no upd_same n)
    · unfold Nf at h ⊢; rw [upd_ne e] at h; exact h⟩
theorem gok_w {W : Wld T} {a : Addr} {o : HO} (m : W.M a) (g : GOk W G H) : GOk W G (upd H a o) := fun b u h => by
  obtain ⟨h1, h2, h3⟩ := g b u h
  exact ⟨by rw [upd_ne (fun (z : b = a) => h3 (by rw [z]; exact m))]; exact h1, h2, h3⟩
section
variable {W : Wld T} {S lw lc : Addr} {cells : List Int} {env : Env'} {i : Nat} {po : Po}
theorem tr_ifN {tt : TT} {t u : TS} {n : Nat} {P : Bool → Prop} (h : ETN W tt env c n P) (h1 : P true → Tr W t env (c + n) po) (h2 : P false → Tr W u env (c + n) po) : Tr W (tIfS tt t u) env c po := fun G0 H0 σ G H A E F =>
  h G0 H0 σ G H A _ fun b G1 H1 s1 g1 j1 p => by
    cases b with
    | true => exact h1 p _ _ _ _ _ (A.step s1 g1 j1) E F
    | false => exact h2 p _ _ _ _ _ (A.step s1 g1 j1) E F
theorem DrSt.putR {MW : Addr → Prop} {ws : List Int} {r t r' : Int} (d : DrSt MW S lw lc cells c H ws r t) (h : 0 ≤ r') : DrSt MW S lw lc cells c (upd H S (.dK (putK (stD lw lc r t) (.inr "rest") (.int r')))) ws r' t :=
  { d with s := upd_same, w := by rw [upd_ne (ne_of d.w d.s (fun z => by cases z))]; exact d.w, l := by rw [upd_ne (ne_of d.l d.s (fun z => by cases z))]; exact d.l, r0 := h }
theorem DrSt.putT {MW : Addr → Prop} {ws : List Int} {r t t' : Int} (d : DrSt MW S lw lc cells c H ws r t) (h : 0 ≤ t') (h2 : t' ≤ c') : DrSt MW S lw lc cells c' (upd H S (.dK (putK (stD lw lc r t) (.inr "turn") (.int t')))) ws r t' :=
  { d with s := upd_same, w := by rw [upd_ne (ne_of d.w d.s (fun z => by cases z))]; exact d.w, l := by rw [upd_ne (ne_of d.l d.s (fun z => by cases z))]; exact d.l, t0 := h, tc := h2 }
theorem en_rest (h : env[i]? = some (.dat (.raw (.ref S)))) : EN (WDr W S lw lc cells) (tDGet (tVar i) (tC (.str "rest"))) env c 0 (fun d => ∃ r : Int, d = .int r ∧ 0 ≤ r) := fun G0 H0 σ G H A Q q => by
  obtain ⟨v, e, r1⟩ := A.env.dat i _ h
  cases r1
  obtain ⟨jw, ws, r, t, d⟩ := A.j
  exact ⟨_, e, S, .int r, rfl, DGet.k (k := .inr "rest") d.s, q (.int r) (.int r) G H Stp.refl A.gok A.j (.int r) ⟨r, rfl, d.r0⟩⟩
theorem en_turn (h : env[i]? = some (.dat (.raw (.ref S)))) : EN (WDr W S lw lc cells) (tDGet (tVar i) (tC (.str "turn"))) env c 0 (fun d => ∃ t : Int, d = .int t ∧ 0 ≤ t ∧ t ≤ c) := fun G0 H0 σ G H A Q q => by
  obtain ⟨v, e, r1⟩ := A.env.dat i _ h
  cases r1
  obtain ⟨jw, ws, r, t, d⟩ := A.j
  exact ⟨_, e, S, .int t, rfl, DGet.k (k := .inr "turn") d.s, q (.int t) (.int t) G H Stp.refl A.gok A.j (.int t) ⟨t, rfl, d.t0, d.tc⟩⟩
theorem len_putK (kvs : List (Key × V)) (h : kvs.length = 4) : kvs.length < sizeLine := by rw [h]; decide
theorem tr_putR {tv : TE} {n : Nat} (h : env[i]? = some (.dat (.raw (.ref S)))) (hv : EN (WDr W S lw lc cells) tv env c n (fun d => ∃ r : Int, d = .int r ∧ 0 ≤ r)) (k : po.nx env (c + n)) : Tr (WDr W S lw lc cells) (sDPut (tVar i) (tC (.str "rest")) tv) env c po := fun G0 H0 σ G H A E F =>
  hv G0 H0 σ G H A _ fun v d G2 H2 s g j r1 ⟨x, ex, x0⟩ => by
    subst ex
    cases r1
    have A2 := A.step s g j
    obtain ⟨v, e, r2⟩ := A2.env.dat i _ h
    cases r2
    obtain ⟨jw, ws, r, t, d⟩ := j
    have mS : (WDr W S lw lc cells).M S := .inr (.inl rfl)
    refine ⟨_, e, S, _, rfl, .inl ⟨_, .inr "rest", d.s, rfl, len_putK _ rfl, rfl⟩, F.nx _ _ _ _ _ (A2.step (stp_w mS (noTb_dK _)) (gok_w mS g) ⟨W.upddk jw d.mS d.s, ws, x, t, d.putR x0⟩) k⟩
theorem tr_putT {tv : TE} {n : Nat} (h : env[i]? = some (.dat (.raw (.ref S)))) (hv : EN (WDr W S lw lc cells) tv env c n (fun d => ∃ r : Int, d = .int r ∧ 0 ≤ r ∧ r ≤ (c + n + 1 : Nat))) (k : po.nx env (c + n + 1)) : Tr (WDr W S lw lc cells) (sDPut (tVar i) (tC (.str "turn")) tv) env c po := fun G0 H0 σ G H A E F =>
  hv G0 H0 σ G H A _ fun v d G2 H2 s g j r1 ⟨x, ex, x0, x1⟩ => by
    subst ex
    cases r1
    have A2 := A.step s g j
    obtain ⟨v, e, r2⟩ := A2.env.dat i _ h
    cases r2
    obtain ⟨jw, ws, r, t, d⟩ := j
    have mS : (WDr W S lw lc cells).M S := .inr (.inl rfl)
    refine ⟨_, e, S, _, rfl, .inl ⟨_, .inr "turn", d.s, rfl, len_putK _ rfl, rfl⟩, F.nx _ _ _ _ _ (A2.step (stp_w mS (noTb_dK _)) (gok_w mS g) ⟨W.mono (by omega) (W.upddk jw d.mS d.s), ws, r, x, d.putT x0 x1⟩) k⟩
theorem src_cells (h : env[i]? = some (.dat (.raw (.ref S)))) : Src (WDr W S lw lc cells) (iList K (tDGet (tVar i) (tC (.str "cells")))) env (cells.map .int) := fun c G0 H0 σ G H A R q => by
  obtain ⟨v, e, r1⟩ := A.env.dat i _ h
  cases r1
  obtain ⟨jw, ws, r, t, d⟩ := A.j
  refine ⟨_, e, S, .ref lc, rfl, DGet.k (k := .inr "cells") d.s, lc, rfl, ⟨_, SqL.of d.l⟩, q _ G H Stp.refl A.gok A.j ⟨fun i G2 H2 g e2 ⟨c2, j2⟩ hi => ?_, fun i G2 H2 g e2 ⟨c2, j2⟩ hi => ?_, fun i d2 c2 G2 H2 x H' g e2 j hd y => ?_⟩⟩
  · obtain ⟨_, ws2, _, _, d2⟩ := j2
    rw [List.length_map] at hi
    exact ⟨_, .int cells[i], SqL.of d2.l, by rw [List.getElem?_map, List.getElem?_eq_getElem hi]; rfl⟩
  · obtain ⟨_, ws2, _, _, d2⟩ := j2
    rw [List.length_map] at hi
    exact ⟨_, SqL.of d2.l, by rw [List.length_map]; exact hi⟩
  · obtain ⟨rfl, hy⟩ := y
    have j2 := j
    obtain ⟨_, ws2, _, _, d3⟩ := j2
    have := hy _ (SqL.of d3.l)
    rw [List.getElem?_map] at this hd
    cases q2 : cells[i]? with
    | none => rw [q2] at hd; cases hd
    | some z =>
      rw [q2] at this hd
      cases this
      cases hd
      exact ⟨G2, Stp.refl, g, j, .int z⟩
/-- where nothing is left, the next number: of the wide ones, or mixed up -/
theorem en_next {tm : TE} (h : env[i]? = some (.dat (.raw (.ref S)))) (hm : EN (WDr W S lw lc cells) tm env c 1 (fun d => ∃ r : Int, d = .int r ∧ 0 ≤ r)) :
    EN (WDr W S lw lc cells) (tIf (tTest (tOp (rNeD K) (tDGet (tVar i) (tC (.str "wide"))) (tLst tNil))) (tBM K "list" rPopAt (tDGet (tVar i) (tC (.str "wide"))) (tCons (tC (.int 0)) tNil)) tm) env c 1 (fun d => ∃ r : Int, d = .int r ∧ 0 ≤ r) := fun G0 H0 σ G H A Q q => by
  obtain ⟨v, e, r1⟩ := A.env.dat i _ h
  cases r1
  have j0 := A.j
  obtain ⟨jw, ws, r, t, d⟩ := j0
  refine ⟨_, e, S, .ref lw, rfl, DGet.k (k := .inr "wide") d.s, Nat.zero_le _, fun p hp => ?_⟩
  have j1 : (WDr W S lw lc cells).J c (upd H p (.lst [])) := J_new A.j hp
  have A1 := A.step (stp_new A.gok hp (o := .lst [])) (gok_new A.gok A.j hp (noTb_lst _)) j1
  have same := same_new hp (HO.lst [])
  have d1 : DrSt W.M S lw lc cells c (upd H p (.lst [])) ws r t := { d with s := same _ _ d.s, w := same _ _ d.w, l := same _ _ d.l }
  have dp1 : Dp K (upd H p (.lst [])) (.ref lw) (dLI ws).py := by
    refine Rp.dp (T := T) (W := W0 T) (G := fun b => if b = lw then some (.lst (ws.map V.int)) else none) (fun b o hb => ?_) ok_dLI (.lst (if_pos rfl) (RpL.of_ints ws))
    by_cases eb : b = lw
    · subst eb
      have hb' := (if_pos rfl).symm.trans hb
      cases hb'
      exact ⟨d1.w, noTb_lst _, fun z => z⟩
    · have hb' := (if_neg eb).symm.trans hb; cases hb'
  have dp2 : Dp K (upd H p (.lst [])) (.ref p) (dLI []).py := by
    refine Rp.dp (T := T) (W := W0 T) (G := fun b => if b = p then some (.lst []) else none) (fun b o hb => ?_) ok_dLI (.lst (if_pos rfl) .nil)
    by_cases eb : b = p
    · subst eb
      have hb' := (if_pos rfl).symm.trans hb
      cases hb'
      exact ⟨upd_same, noTb_lst _, fun z => z⟩
    · have hb' := (if_neg eb).symm.trans hb; cases hb'
  refine ⟨_, _, dp1, dp2, shaped_of_ok ok_dLI, shaped_of_ok ok_dLI, ?_⟩
  have eq : PyData.eqv (dLI ws).py (dLI []).py = decide (ws = []) := eqv_dLI
  rw [eq]
  refine ⟨_, rfl, ?_⟩
  cases ws with
  | nil =>
    refine (if_neg (by simp)).mpr ?_
    exact hm G0 H0 σ _ _ A1 Q fun v d G2 H2 s g j r p => q v d G2 H2 ((stp_new A.gok hp).trans s) g j r p
  | cons x ws =>
    refine (if_pos (by simp)).mpr ?_
    have mw : (WDr W S lw lc cells).M lw := .inr (.inr (.inl rfl))
    refine ⟨_, e, S, .ref lw, rfl, DGet.k (k := .inr "wide") d1.s, (.inl ⟨rfl, _, SqL.of d1.w⟩), lw, _, 0, 0, .int x, rfl, rfl, d1.w, by decide, by decide, by unfold seqIndex?; simp, rfl, ?_⟩
    refine q (.int x) (.int x) (upd G p (.lst [])) _ ((stp_new A.gok hp).trans (stp_w mw (noTb_lst _))) (gok_w mw A1.gok) ?_ (.int x) ⟨x, rfl, d.w0 x List.mem_cons_self⟩
    refine ⟨W.mono (by omega) (W.updl A1.j.1 d.mw d1.w), ws, r, t, { d1 with s := by rw [upd_ne (ne_of d1.s d1.w (fun z => by cases z))]; exact d1.s, w := upd_same, l := by rw [upd_ne d.ne.symm]; exact d1.l, w0 := fun y hy => d.w0 y (List.mem_cons_of_mem _ hy), tc := by have := d.tc; omega }⟩
end
end
end Fx

set_option Elab.async false
set_option linter.all false
set_option maxRecDepth 100000
set_option maxHeartbeats 4000000
/-! How the draws begin. -/
namespace Fx
open PySem PySem.Spec PyProof.Rows L2 LamX C8
section
variable {T : List (Addr × Str)} {W : Wld T} {G H G1 H1 G2 H2 H0 : Hp} {G0 : Hp × Hp} {c c' k : Nat} {K : PySem.W.Frag}
theorem ETN.imp {tt : TT} {env : Env'} {P P' : Bool → Prop} {k' : Nat} (h : ETN W tt env c k P) (hk : k ≤ k') (hp : ∀ b, P b → P' b) : ETN W tt env c k' P' := fun G0 H0 σ G H A Q q =>
  h G0 H0 σ G H A Q fun b G2 H2 s g j p => q b G2 H2 s g (W.mono (Nat.add_le_add_left hk c) j) (hp b p)
/-- a fresh list by a comprehension of which the items are known in kind -/
theorem mn_lcP {wi : TI} {tt : TT} {te : TE} {env : Env'} {j : Nat} {items : List D} (Pt : D → Bool → Prop) (Pe : D → Prop) (hs : Src W wi env items) (hz : items.length ≤ 100000) (ht : ∀ d ∈ items, ∀ c', ETN W tt (env.set j (.dat d)) c' 0 (Pt d))
    (he : ∀ d ∈ items, Pt d true → ∀ c', EN W te (env.set j (.dat d)) c' 0 Pe) : MN W (tLc wi (gName j) tt te [j]) env c 0 (fun ds => ds.length ≤ items.length ∧ ∀ d ∈ ds, Pe d) := fun G0 H0 σ G H A Q q => by
  refine mn_lc (c := c) (n := items.length) (k0 := 0) (kt := 0) (ke := 0) (fun d => env.set j (.dat d)) (fun _ d b => Pt d b) (fun _ _ e => Pe e) hs.n (fun l h => by rw [h]; exact Nat.le_refl _) hz (fun l h d hd => ?_) (fun l h i d hd c' _ => ?_) (fun l h i d hd c' _ pt => ?_) G0 H0 σ G H A Q fun p xs ds G2 H2 s g j2 hp gp nf m r ⟨l, os, hl, ol, oR, e⟩ => ?_
  · have := tgc_name (W := W) (d := d) (env := wipeE env [j]) (j := j) (vs := [j]) List.mem_cons_self
    rwa [set1] at this
  · subst h
    exact ht d (List.mem_of_getElem? hd) c'
  · subst h
    exact he d (List.mem_of_getElem? hd) pt c'
  · subst hl
    rw [Nat.add_zero, Nat.zero_mul] at j2
    refine q p xs ds G2 H2 s g j2 hp gp nf m r ⟨by rw [e]; exact Nat.le_trans (List.length_filterMap_le _ _) (by omega), fun d hd => ?_⟩
    rw [e] at hd
    obtain ⟨o, ho, ho2⟩ := List.mem_filterMap.mp hd
    have ho2 : o = some d := ho2
    subst ho2
    obtain ⟨i, hi, ei⟩ := List.mem_iff_getElem.mp ho
    have hi2 : i < l.length := by omega
    rcases oR i l[i] (some d) (List.getElem?_eq_getElem hi2) (by rw [List.getElem?_eq_getElem hi, ei]) with ⟨z, _⟩ | ⟨y, z, _, p⟩
    · cases z
    · cases z; exact p
theorem src_scr {a : Addr} {ns : List Int} {Pm : Prop} {env : Env'} {i : Nat} (h : env[i]? = some (.dat (.raw (.ref a)))) : Src (WS T K a ns Pm) (iList K (tVar i)) env (ns.map .int) := fun c G0 H0 σ G H A R q => by
  obtain ⟨v, e, r1⟩ := A.env.dat i _ h
  cases r1
  refine ⟨_, e, a, rfl, ⟨_, ws_sq A.j⟩, q _ G H Stp.refl A.gok A.j ⟨fun i G2 H2 g e2 ⟨c2, j2⟩ hi => ?_, fun i G2 H2 g e2 ⟨c2, j2⟩ hi => ?_, fun i d2 c2 G2 H2 x H' g e2 j hd y => ?_⟩⟩
  · rw [List.length_map] at hi
    exact ⟨_, .int ns[i], ws_sq j2, by rw [List.getElem?_map, List.getElem?_eq_getElem hi]; rfl⟩
  · rw [List.length_map] at hi
    exact ⟨_, ws_sq j2, by rw [List.length_map]; exact hi⟩
  · obtain ⟨rfl, hy⟩ := y
    have := hy _ (ws_sq j)
    rw [List.getElem?_map] at this hd
    cases q2 : ns[i]? with
    | none => rw [q2] at hd; cases hd
    | some z =>
      rw [q2] at this hd
      cases this
      cases hd
      exact ⟨G2, Stp.refl, g, j, .int z⟩
theorem rdl_abs {i : Int} : RDL W (fun xs H Q => ∃ i, xs = [.int i] ∧ Q (.int (if i < 0 then -i else i)) H) [.int i] (.int (i.natAbs : Nat)) := fun c G H vs g j r Q q => by
  cases r with
  | cons r1 r2 =>
  cases r2
  cases r1
  refine ⟨i, rfl, ?_⟩
  have e : (if i < 0 then -i else i) = (i.natAbs : Nat) := by
    split <;> omega
  rw [e]
  exact q.here g j (.int _)
/-- what the draws begin with -/
def SpBegun (W : Wld T) (a : Addr) : Sp := fun vs H Q _ => vs = [.ref a] ∧ ∃ G c, GOk W G H ∧ W.J c H ∧ ∀ S lw lc ws cells G2 H2, Stp W G H G2 H2 → GOk W G2 H2 → W.J c H2 → DrSt W.M S lw lc cells 0 H2 ws 0 0 → (∀ x ∈ cells, 0 ≤ x) → G2 S = none → G2 lw = none → G2 lc = none → Q (.ref S) H2
theorem ints_of (ds : List D) (h : ∀ d ∈ ds, ∃ x : Int, d = .int x ∧ 0 ≤ x) : ∃ ws : List Int, ds = ws.map .int ∧ ∀ x ∈ ws, 0 ≤ x := by
  induction ds with
  | nil => exact ⟨[], rfl, fun _ h => by cases h⟩
  | cons d r ih =>
    obtain ⟨x, rfl, hx⟩ := h d List.mem_cons_self
    obtain ⟨ws, rfl, hw⟩ := ih fun d hd => h d (List.mem_cons_of_mem _ hd)
    exact ⟨x :: ws, rfl, fun y hy => by
      rcases List.mem_cons.mp hy with rfl | hy
      · exact hx
      · exact hw y hy⟩
theorem disp_draw {tc : TE} {env : Env'} {i : Nat} {ws : List Int} (hi : env[i]? = some (.mu (ws.map .int))) (hw : ∀ x ∈ ws, 0 ≤ x) 
    (hc2 : MN W tc env c 0 (fun ds => ∃ cells : List Int, ds = cells.map .int ∧ ∀ x ∈ cells, 0 ≤ x)) {σ : L2.St} (A : At W G0 H0 c G H σ env) (Q : VK)
    (q : ∀ S lw lc cells G2 H2, Stp W G H G2 H2 → GOk W G2 H2 → W.J c H2 → DrSt W.M S lw lc cells 0 H2 ws 0 0 → (∀ x ∈ cells, 0 ≤ x) → G2 S = none → G2 lw = none → G2 lc = none → Q (.ref S) H2) :
    tDisp [(tC (.str "wide"), tVar i), (tC (.str "cells"), tc), (tC (.str "rest"), tC (.int 0)), (tC (.str "turn"), tC (.int 0))] σ H Q := by
  intro p hp
  have nf := nf_none hp
  have gp := A.gok.none hp
  have mp : ¬ W.M p := fun m => W.mtr A.j m nf
  have s1 : Stp W G H G (upd H p (.dK [])) := stp_upd Stp.refl nf (noTb_dK _)
  have A1 := A.step s1 (gok_upd A.gok gp) (J_new (o := .dK []) A.j hp)
  obtain ⟨lw, xs, e, hl, gl, r, m, _⟩ := A1.env.mu i _ hi
  have exs := RpL.ints r
  subst exs
  refine ⟨_, e, ?_⟩
  refine hc2 _ _ σ _ _ A1 _ fun lc xs ds G2 H2 s2 g2 j2 hlc glc nlc mlc r2 ⟨cells, ed, hcells⟩ => ?_
  subst ed
  have exs := RpL.ints r2
  subst exs
  have d2 := s2.hh p _ upd_same mp (noTb_dK _)
  have n2 := s2.gone gp upd_same (noTb_dK _)
  have l2 := s2.hh lw _ hl m (noTb_lst _)
  have nl2 := s2.gone gl hl (noTb_lst _)
  have neL : lw ≠ lc := fun z => nf_no hl (noTb_lst _) (z ▸ nlc)
  have neP : lw ≠ p := ne_of l2 d2 (by intro z; cases z)
  have neC : lc ≠ p := ne_of hlc d2 (by intro z; cases z)
  refine ⟨d2, [(.inr "wide", .ref lw), (.inr "cells", .ref lc), (.inr "rest", .int 0), (.inr "turn", .int 0)], rfl, by simp, ?_⟩
  have em : mergeK [] [((.inr "wide" : Key), V.ref lw), (.inr "cells", .ref lc), (.inr "rest", .int 0), (.inr "turn", .int 0)] = stD lw lc 0 0 := rfl
  rw [em]
  refine q p lw lc cells G2 (upd H2 p (.dK (stD lw lc 0 0))) (stp_upd (s1.trans s2) nf (noTb_dK _)) (gok_upd g2 n2) (W.upddk (by simpa using j2) mp d2) ⟨upd_same, by rw [upd_ne neP]; exact l2, by rw [upd_ne neC]; exact hlc, hw, by omega, by omega, by omega, neL, mp, m⟩ hcells n2 nl2 glc
/-- a def that may draw, at most k times, whatever the draws' dict -/
def SpSx (T : List (Addr × Str)) (k : Nat) (f : Addr → List D → (D → Prop) → Prop) : Sp := fun vs H Q E => ∃ (W : Wld T) (S lw lc : Addr) (cells : List Int), SpS (WDr W S lw lc cells) k (f S) vs H Q E
theorem en_callX {S lw lc : Addr} {cells : List Int} {f : Addr → List D → (D → Prop) → Prop} {E : XK} {ta : TA} {env : Env'} {n : Nat} {Pa : List D → Prop} {P : D → Prop} (h : EAN (WDr W S lw lc cells) ta env c n Pa) (hf : ∀ ds, Pa ds → f S ds P) (hc : c + n + k ≤ CAP) : EN (WDr W S lw lc cells) (tCall (SpSx T k f) [] E ta) env c (n + k) P := fun G0 H0 σ G H A Q q =>
  h G0 H0 σ G H A _ fun vs ds G1 H1 s1 g1 j1 r1 p => by
    rw [List.append_nil]
    exact ⟨W, S, lw, lc, cells, G1, c + n, ds, P, g1, j1, hc, r1, hf ds p, fun v d G2 H2 s g t r pd => q v d G2 H2 (s1.trans s) g (by rw [← Nat.add_assoc]; exact t) r pd⟩
theorem calSx {P : Program} {w : World} {mg : Str → Option Value} {base : Heap} {x : Str} {st : Stmt} {N ps : List Str} {k m : Nat} {cdv : Value} {f : Addr → List D → (D → Prop) → Prop} (F : Df K mg x st ps cdv) (Sc : scC N ps (fnScope st) = true) (len : ∀ S ds d, f S ds d → ds.length = ps.length)
    (hbody : ∀ (a : Addr) (A : Around) (outer : List Env) (s : Shared) (H : Hp) (E : XK), Room k (A.deeper (envOfC x (fnScope st) s.heap.objs.size a cdv)) →
      ∃ t, PSs (cxOf C8.CX0 P w K mg base N x (fnScope st) a cdv A outer s H E).nox (fnBody st) t ∧ ∀ (W : Wld T) (S lw lc : Addr) (cells : List Int) ds P c, f S ds P → c + m ≤ CAP → Tr (WDr W S lw lc cells) t (env0 ds (N.length - ds.length)) c ⟨fun _ c2 => P .non ∧ c2 ≤ c + m, fun r c2 => P r ∧ c2 ≤ c + m, fun _ _ => False, fun _ _ => False, fun _ _ _ => False, fun _ _ _ => False⟩) : Cal P w K mg base (k + 1) x (SpSx T m f) [] := by
  have hn : ps.length ≤ N.length := by
    have := (fnScope_by Sc).pre
    rw [← this, List.length_take]
    omega
  refine cal_of F Sc (fun vs H Q E h => ?_) fun a A outer s H vs Q E hr h => ?_
  · obtain ⟨W, S, lw, lc, cells, G, c, ds, d, _, _, _, r, hf, _⟩ := h
    rw [r.len, len S ds d hf]
  · obtain ⟨t, ht, q⟩ := hbody a A outer s H E hr
    obtain ⟨W, S, lw, lc, cells, h⟩ := h
    refine ⟨t, ht, body_S h ?_ fun ds P c => q W S lw lc cells ds P c⟩
    obtain ⟨G, c, ds, d, _, _, _, r, hf, _⟩ := h
    rw [r.len, len S ds d hf]
    exact hn
/-- what the draws begin with, whatever the script -/
def SpBegunX (T : List (Addr × Str)) (K : PySem.W.Frag) : Sp := fun vs H Q E => ∃ (a : Addr) (ns : List Int) (Pm : Prop), ns.length ≤ 1000 ∧ SpBegun (WS T K a ns Pm) a vs H Q E
theorem fn_raw {P : Program} {w : World} {mg : Str → Option Value} {base : Heap} {x : Str} {st : Stmt} {N ps : List Str} {k : Nat} {sp : Sp} {f : Addr} {fd : FuncData} (F : FunD K x x (fnArgs st) (fnBody st) (fnScope st) [] [] f fd) (S : scC N ps (fnScope st) = true) (len : ∀ vs H Q E, sp vs H Q E → vs.length = ps.length)
    (hbody : ∀ (cdv : Value) (a : Addr) (A : Around) (outer : List Env) (s : Shared) (H : Hp) (E : XK), Room k (A.deeper (envOfC x (fnScope st) s.heap.objs.size a cdv)) →
      ∃ t, PSs (cxOf C8.CX0 P w K mg base N x (fnScope st) a cdv A outer s H E).nox (fnBody st) t ∧ ∀ vs Q, sp vs H Q E → t { nx := fun _ H' => Q .non H', rt := Q } (L2.start N vs) H) : FnOk P w K mg base C8.CX0 (k + 1) f fd ps sp :=
  F.ok (fnScope_by S) len fun cdv A outer s H vs Q E hr h => let ⟨t, ht, q⟩ := hbody cdv f A outer s H E hr; ⟨t, ht.nox, q vs Q h⟩
theorem df_of {mg : Str → Option Value} {x : Str} {st : Stmt} {ps : List Str} {f : Addr} {fd : FuncData} (F : FunD K x x (fnArgs st) (fnBody st) (fnScope st) [] [] f fd) (hm : mg x = some (.ref f)) (hb : ∀ (kV doc pm : Value) (an : Option Addr) (cdv ct : Value) (us : List Value), us.length = ps.length → bindArgs (PySem.W.fnOf x x (fnArgs st) (fnBody st) (fnScope st) .none kV doc pm an cdv ct) ⟨us, []⟩ = pure (ps.zip us)) : Df K mg x st ps fd.code := by
  obtain ⟨oc, od, dV, kV, doc, pm, an, cdv, ct, osl, rfl, lk, hcd, hd, hk⟩ := F.ex
  have e : dV = .none := by
    rcases hd with ⟨_, e⟩ | ⟨n, _⟩
    · exact e
    · exact absurd rfl n
  subst e
  exact ⟨f, oc, od, kV, doc, pm, an, ct, osl, lk, hcd, hm, F.kp, .all fun us hl => hb kV doc pm an cdv ct us hl⟩
/-- a def with a table of its own -/
theorem df_tab {mg : Str → Option Value} {x : Str} {st : Stmt} {ps : List Str} {fd : FuncData} (F : FunD K x x (fnArgs st) (fnBody st) (fnScope st) [] [] (He.fAd K (x, none)) fd) (hm : mg x = some (.ref (He.fAd K (x, none)))) (hb : ∀ (kV doc pm : Value) (an : Option Addr) (cdv ct : Value) (us : List Value), us.length = ps.length → bindArgs (PySem.W.fnOf x x (fnArgs st) (fnBody st) (fnScope st) .none kV doc pm an cdv ct) ⟨us, []⟩ = pure (ps.zip us)) : Df K mg x st ps (.ref (He.cT K (x, none)).1) := by
  have h := df_of F hm hb
  obtain ⟨oc, od, dV, kV, doc, pm, an, cdv, ct, osl, rfl, lk, hcd, hd, hk⟩ := F.ex
  obtain ⟨c, ec⟩ := He.codeIn_ref hcd
  have e : He.codeOf K (x, none) = c := He.codeOf_eq lk (by exact ec)
  have e2 : (He.cT K (x, none)).1 = c := e
  rw [e2, ← ec]
  exact h
theorem seq_asg {te : TE} {i : Nat} {u : TS} {E : Ends} {σ : L2.St} {H : Hp} (h : te σ H fun v H' => u E (σ.set i (some v)) H') : tSeq (tAsg te (gName i)) u E σ H := h
theorem ret_raw {te : TE} {E : Ends} {σ : L2.St} {H : Hp} (h : te σ H E.rt) : tRet te E σ H := h
/-- a def by its reading -/
theorem cal_raw {P : Program} {w : World} {mg : Str → Option Value} {base : Heap} {x : Str} {st : Stmt} {N ps : List Str} {k : Nat} {sp : Sp} {cdv : Value} (F : Df K mg x st ps cdv) (S : scC N ps (fnScope st) = true) (len : ∀ vs H Q E, sp vs H Q E → vs.length = ps.length)
    (hbody : ∀ (a : Addr) (A : Around) (outer : List Env) (s : Shared) (H : Hp) (E : XK), Room k (A.deeper (envOfC x (fnScope st) s.heap.objs.size a cdv)) →
      ∃ t, PSs (cxOf C8.CX0 P w K mg base N x (fnScope st) a cdv A outer s H E).nox (fnBody st) t ∧ ∀ vs Q, sp vs H Q E → t { nx := fun _ H' => Q .non H', rt := Q } (L2.start N vs) H) : Cal P w K mg base (k + 1) x sp [] :=
  cal_of F S len fun f A outer s H vs Q E hr h => let ⟨t, ht, q⟩ := hbody f A outer s H E hr; ⟨t, ht, q vs Q h⟩
end
end Fx

set_option Elab.async false
set_option linter.all false
set_option maxRecDepth 100000
set_option maxHeartbeats 4000000
/-! sorted(set(t)) of ints; fresh lists; draws in short. -/
namespace Fx
open PySem PySem.Spec PyProof.Rows L2 LamX C8
section
variable {X : Cx}
/-- set(t), a tuple of ints -/
def rSetTup (K : PySem.W.Frag) (w : World) : List V → Hp → VK → Prop := fun xs H Q => ∃ (p : Addr) (ns : List Int), xs = [.ref p] ∧ SqT K H p (ns.map V.int) ∧ ns.length ≤ 1000 ∧ ∀ (q : Addr) (c : Nat), H q = none → c ≤ ns.length → Q (.ref q) (upd H q (SetO w q (fun j => decide (j ∈ ns)) c))
theorem cr_setTup (K : PySem.W.Frag) (w : World) (hc : X.calm = true) (h : X.K = K := by rfl) (hw : X.w = w := by rfl) : CallR X (.type "set") (rSetTup K w) := by
  subst h hw
  intro pins s σ H xs us Q I r h
  obtain ⟨p, ns, rfl, hq, hl, q⟩ := h
  obtain rfl := Vals.ref1 r
  obtain ⟨its, rv, pt, hz⟩ := I.tuple hq
  have hi : IntsAre its.toArray.toList ns := ints_of_vals rv
  refine call_set_tupI ns (I.ok.hd hc) (show s.heap.IsTuple p its.toArray from pt) hi (by unfold scanBound; omega) fun h' tk c R hcn k => ?_
  have hn := I.hok.fresh (Nat.le_refl s.heap.objs.size)
  exact ⟨.ref _, _, I.laid (t' := tk) k (Nat.le_refl _) (setO_new R), rfl, q _ c hn hcn⟩
theorem ksortSet (w : World) (hc : X.calm = true) (hw : X.w = w := by rfl) : CallR X (.builtin "sorted") (rSortedSet w) := by subst hw; exact cr_sortedSet hc
end
section
variable {T : List (Addr × Str)} {W : Wld T} {G H G1 H1 G2 H2 H0 : Hp} {G0 : Hp × Hp} {c c' k : Nat} {K : PySem.W.Frag}
theorem noTb_set {w : World} {a : Addr} {S : Int → Bool} {n : Nat} : NoTb (SetO w a S n) := fun _ z => by unfold SetO at z; cases z
/-- sorted(set(t)) -/
theorem en_sortedSet {w : World} {te : TE} {env : Env'} {n : Nat} {P : List Int → Prop} (h : EN W te env c n (fun d => ∃ ns, d = dI ns ∧ P ns)) (hz : ∀ ns, P ns → ns.length < 64) :
    EN W (tCB (rSortedSet w) (tCons (tCB (rSetTup K w) (tCons te tNil)) tNil)) env c n (fun d => ∃ ns ms : List Int, P ns ∧ d = dLI ms ∧ ms.Pairwise (· < ·) ∧ ∀ k, k ∈ ms ↔ k ∈ ns) := fun G0 H0 σ G H A Q q =>
  h G0 H0 σ G H A _ fun v d G1 H1 s1 g1 j1 r1 ⟨ns, e, p⟩ => by
    subst e
    cases r1 with
    | tup ha rl =>
    have hx := RpL.ints rl
    subst hx
    have hz := hz ns p
    refine ⟨_, ns, rfl, sqT_of g1 ha, by omega, fun q1 c1 hq hc1 => ?_⟩
    refine ⟨q1, _, c1, rfl, upd_same, by omega, fun ms p2 hp hm hl hn => ?_⟩
    have nf := nf_none hq
    have s2 : Stp W G1 H1 G1 (upd H1 q1 (SetO w q1 (fun j => decide (j ∈ ns)) c1)) := stp_upd Stp.refl nf noTb_set
    have g2 := gok_upd (o := SetO w q1 (fun j => decide (j ∈ ns)) c1) g1 (g1.none hq)
    have j2 := J_new (o := SetO w q1 (fun j => decide (j ∈ ns)) c1) j1 hq
    exact q (.ref p2) (dLI ms) _ _ ((s1.trans s2).trans (stp_new g2 hn)) (gok_new g2 j2 hn (noTb_lst _)) (J_new j2 hn) (.lst upd_same ((RpL.of_ints ms))) ⟨ns, ms, p, rfl, hp, fun k => by rw [hm k]; simp⟩
/-- an item of a list that changes -/
theorem ed_ixMu {ti : TE} {env : Env'} {i j : Nat} {ds : List D} {d : D} (he : env[i]? = some (.mu ds)) (h : ED W ti env (.int (j : Nat))) (hd : ds[j]? = some d) : ED W (tOp (rIx K) (tVar i) ti) env d := fun c G0 H0 σ G H A Q q => by
  obtain ⟨l, xs, e, hl, gl, r, m, _⟩ := A.env.mu i ds he
  refine ⟨_, e, ?_⟩
  refine h c G0 H0 σ G H A _ fun v G1 H1 s1 g1 j1 r1 => ?_
  cases r1
  have h1 := s1.hh l _ hl m (noTb_lst _)
  obtain ⟨v, e1, r2⟩ := r.get hd
  exact .inl ⟨_, _, _, v, rfl, rfl, SqL.of h1, atI_nat e1, q v G1 H1 s1 g1 j1 (r2.mono s1.gg)⟩
/-- list(x): a fresh one -/
theorem mn_list {te : TE} {env : Env'} {ds : List D} (h : ED W te env (.lst ds) ∨ ED W te env (.tup ds)) : MN W (tCB (fun xs H Q => ∃ p ys, xs = [.ref p] ∧ (SqL K H p ys ∨ SqT K H p ys) ∧ ∀ l, H l = none → Q (.ref l) (upd H l (.lst ys))) (tCons te tNil)) env c 0 (fun es => es = ds) := fun G0 H0 σ G H A Q q => by
  have fin : ∀ (p : Addr) (ys : List V) (G1 H1 : Hp), Stp W G H G1 H1 → GOk W G1 H1 → W.J c H1 → (SqL K H1 p ys ∨ SqT K H1 p ys) → RpL G1 ys ds → ∃ p' ys', [V.ref p] = [.ref p'] ∧ (SqL K H1 p' ys' ∨ SqT K H1 p' ys') ∧ ∀ l, H1 l = none → Q (.ref l) (upd H1 l (.lst ys')) := fun p ys G1 H1 s1 g1 j1 hq rl =>
    ⟨p, ys, rfl, hq, fun l hl => q l ys ds G1 (upd H1 l (.lst ys)) (s1.trans (stp_upd Stp.refl (nf_none hl) (noTb_lst _))) (gok_upd g1 (g1.none hl)) (J_new j1 hl) upd_same (g1.none hl) (s1.dom l (nf_none hl)) (fun m => W.mtr j1 m (nf_none hl)) rl rfl⟩
  rcases h with h | h
  · refine h c G0 H0 σ G H A _ fun v G1 H1 s1 g1 j1 r1 => ?_
    cases r1 with
    | lst ha rl => exact fin _ _ G1 H1 s1 g1 j1 (.inl (sqL_of g1 ha)) rl
  · refine h c G0 H0 σ G H A _ fun v G1 H1 s1 g1 j1 r1 => ?_
    cases r1 with
    | tup ha rl => exact fin _ _ G1 H1 s1 g1 j1 (.inr (sqT_of g1 ha)) rl
theorem en_if {t : TT} {ta tb : TE} {env : Env'} {k1 k2 : Nat} {Pb : Bool → Prop} {P : D → Prop} (h : ETN W t env c k1 Pb) (h1 : Pb true → EN W ta env (c + k1) k2 P) (h2 : Pb false → EN W tb env (c + k1) k2 P) : EN W (tIf t ta tb) env c (k1 + k2) P := fun G0 H0 σ G H A Q q =>
  h G0 H0 σ G H A _ fun b G1 H1 s1 g1 j1 p => by
    cases b with
    | true => exact h1 p G0 H0 σ G1 H1 (A.step s1 g1 j1) Q fun v d G2 H2 s2 g2 j2 r2 => q v d G2 H2 (s1.trans s2) g2 (by rw [← Nat.add_assoc]; exact j2) r2
    | false => exact h2 p G0 H0 σ G1 H1 (A.step s1 g1 j1) Q fun v d G2 H2 s2 g2 j2 r2 => q v d G2 H2 (s1.trans s2) g2 (by rw [← Nat.add_assoc]; exact j2) r2
theorem etn_or {t u : TT} {env : Env'} {k1 k2 : Nat} {P1 P : Bool → Prop} (h : ETN W t env c k1 P1) (h1 : P1 true → P true) (h2 : P1 false → ETN W u env (c + k1) k2 P) : ETN W (tOr t u) env c (k1 + k2) P := fun G0 H0 σ G H A Q q =>
  h G0 H0 σ G H A _ fun b G1 H1 s1 g1 j1 p => by
    cases b with
    | true => exact q true G1 H1 s1 g1 (W.mono (by omega) j1) (h1 p)
    | false => exact h2 p G0 H0 σ G1 H1 (A.step s1 g1 j1) Q fun b2 G2 H2 s2 g2 j2 p2 => q b2 G2 H2 (s1.trans s2) g2 (by rw [← Nat.add_assoc]; exact j2) p2
theorem EN.lift {te : TE} {env : Env'} {P : D → Prop} {k' : Nat} (h : EN W te env c k P) (hk : k ≤ k') : EN W te env c k' P := h.imp hk fun _ h => h
/-- [x for x in ints if ..], whatever the test says -/
theorem en_pick {wi : TI} {tt : TT} {env : Env'} {j kt : Nat} {xs : List Int} {te : TE} (hs : Src W wi env (xs.map .int)) (hz : xs.length ≤ 1000) (hj : j < env.length) (ht : ∀ x ∈ xs, ∀ c', c' + kt ≤ c + kt * xs.length → ETN W tt (env.set j (.dat (.int x))) c' kt (fun _ => True)) (e : te = tVar j) :
    EN W (tLc wi (gName j) tt te [j]) env c (kt * xs.length) (fun d => ∃ l : List Int, l.Sublist xs ∧ d = dLI l) := by
  subst e
  refine EN.imp (en_lc (c := c) (n := xs.length) (k0 := 0) (kt := kt) (ke := 0) (fun d => env.set j (.dat d)) (fun _ _ _ => True) (fun i _ y => ∃ x, xs[i]? = some x ∧ y = .int x) hs.n (fun l h => by rw [h]; simp) (by omega) (fun l h d hd => ?_) (fun l h i d hd c' hc => ?_) fun l h i d hd c' hc pt => ?_) (by simp) fun d h => ?_
  · have := tgc_name (W := W) (d := d) (env := wipeE env [j]) (j := j) (vs := [j]) List.mem_cons_self
    rwa [set1] at this
  · subst h
    obtain ⟨x, hx, rfl⟩ := List.mem_map.mp (List.mem_of_getElem? hd)
    exact ht x hx c' (by simpa using hc)
  · subst h
    rw [List.getElem?_map] at hd
    cases q : xs[i]? with
    | none => rw [q] at hd; cases hd
    | some x =>
      rw [q] at hd
      cases hd
      exact (ed_var (d := .int x) (List.getElem?_set_self hj)).n.imp (Nat.le_refl _) fun d e => ⟨x, rfl, e⟩
  · obtain ⟨l, os, rfl, ol, oR, rfl⟩ := h
    rw [List.length_map] at ol
    have key : ∀ (xs : List Int) (os : List (Option D)), os.length = xs.length → (∀ (i : Nat) (o : Option D), os[i]? = some o → o = none ∨ ∃ x, xs[i]? = some x ∧ o = some (.int x)) → ∃ l : List Int, l.Sublist xs ∧ os.filterMap id = l.map .int := by
      intro xs
      induction xs with
      | nil =>
        intro os h _
        cases os with
        | nil => exact ⟨[], .slnil, rfl⟩
        | cons o r => cases h
      | cons x r ih =>
        intro os h hp
        cases os with
        | nil => cases h
        | cons o ro =>
          obtain ⟨l, hl, el⟩ := ih ro (by simpa using h) fun i o ho => hp (i + 1) o ho
          rcases hp 0 o rfl with rfl | ⟨y, hy, rfl⟩
          · exact ⟨l, .cons _ hl, by rw [List.filterMap_cons]; exact el⟩
          · cases hy
            exact ⟨x :: l, .cons₂ _ hl, by rw [List.filterMap_cons]; show D.int x :: List.filterMap id ro = _; rw [el]; rfl⟩
    obtain ⟨l, hl, el⟩ := key xs os ol fun i o ho => by
      have hi : i < xs.length := by rw [← ol]; exact (List.getElem?_eq_some_iff.mp ho).1
      rcases oR i (.int xs[i]) o (by rw [List.getElem?_map, List.getElem?_eq_getElem hi]; rfl) ho with ⟨e, _⟩ | ⟨y, e, _, x, hx, ey⟩
      · exact .inl e
      · exact .inr ⟨x, hx, by rw [e, ey]⟩
    exact ⟨l, hl, congrArg D.lst el⟩
end
end Fx
namespace Fx
open PySem PySem.Spec PyProof.Rows L2 LamX C8
theorem tg_tup3 {T : List (Addr × Str)} {W : Wld T} {K : PySem.W.Frag} {d1 d2 d3 : D} {env : Env'} {i j m : Nat} : TgOk W (gTup K 3 (gCons (gName i) (gCons (gName j) (gCons (gName m) gNil)))) (.tup [d1, d2, d3]) env (((env.set i (.dat d1)).set j (.dat d2)).set m (.dat d3)) := fun c G0 H0 σ G H v A r Q q => by
  cases r with
  | tup h r =>
    cases r with
    | cons r1 r2 =>
    cases r2 with
    | cons r2 r3 =>
    cases r3 with
    | cons r3 r4 =>
    cases r4
    exact ⟨_, _, rfl, sqT_of A.gok h, rfl, _, _, rfl, _, _, rfl, _, _, rfl, rfl, q _ (((A.setD i r1).setD j r2).setD m r3)⟩
theorem EAN.imp1 {T : List (Addr × Str)} {W : Wld T} {c k : Nat} {ta : TA} {env : Env'} {P P' : List D → Prop} {k' : Nat} (h : EAN W ta env c k P) (hp : ∀ d, P d → P' d) (hk : k ≤ k' := by first | exact Nat.le_refl _ | decide | omega) : EAN W ta env c k' P' := fun G0 H0 σ G H A Q q =>
  h G0 H0 σ G H A Q fun v d G2 H2 s g j r p => q v d G2 H2 s g (W.mono (Nat.add_le_add_left hk c) j) r (hp d p)
end Fx
namespace Fx
open PySem PySem.Spec PyProof.Rows L2 LamX C8
section
variable {T : List (Addr × Str)} {W : Wld T} {c k : Nat}
/-- [e for x in items], e drawn -/
theorem en_mapN {wi : TI} {te : TE} {env : Env'} {j k0 ke n : Nat} {P0 : List D → Prop} {Pe : D → Prop} (hs : SrcN W wi env c k0 P0) (hn : ∀ l, P0 l → l.length ≤ n) (hz : n ≤ 100000)
    (he : ∀ l, P0 l → ∀ d ∈ l, ∀ c', c' + ke ≤ c + (k0 + ke * n) → EN W te (env.set j (.dat d)) c' ke Pe) : EN W (tLc wi (gName j) tYes te [j]) env c (k0 + ke * n) (fun d => ∃ l ds : List D, P0 l ∧ d = .lst ds ∧ ds.length = l.length ∧ ∀ x ∈ ds, Pe x) := by
  refine EN.imp (en_lc (c := c) (n := n) (k0 := k0) (kt := 0) (ke := ke) (fun d => env.set j (.dat d)) (fun _ _ b => b = true) (fun _ _ e => Pe e) hs hn hz (fun l h d hd => ?_) (fun l h i d hd c' _ => ?_) (fun l h i d hd c' hc _ => ?_)) (by simp) fun d h => ?_
  · have := tgc_name (W := W) (d := d) (env := wipeE env [j]) (j := j) (vs := [j]) List.mem_cons_self
    rwa [set1] at this
  · exact et_yes.n
  · exact he l h d (List.mem_of_getElem? hd) c' (by simpa using hc)
  · obtain ⟨l, os, h0, ol, oR, rfl⟩ := h
    have key : ∀ (l : List D) (os : List (Option D)), os.length = l.length → (∀ (i : Nat) (o : Option D), os[i]? = some o → ∃ y, o = some y ∧ Pe y) → (os.filterMap id).length = l.length ∧ ∀ x ∈ os.filterMap id, Pe x := by
      intro l
      induction l with
      | nil =>
        intro os h _
        cases os with
        | nil => exact ⟨rfl, fun x h => by cases h⟩
        | cons o r => cases h
      | cons x r ih =>
        intro os h hp
        cases os with
        | nil => cases h
        | cons o ro =>
          obtain ⟨h1, h2⟩ := ih ro (by simpa using h) fun i o ho => hp (i + 1) o ho
          obtain ⟨y, rfl, py⟩ := hp 0 o rfl
          rw [List.filterMap_cons]
          show (y :: List.filterMap id ro).length = _ ∧ ∀ x ∈ y :: List.filterMap id ro, Pe x
          refine ⟨by rw [List.length_cons, List.length_cons, h1], fun x hx => ?_⟩
          rcases List.mem_cons.mp hx with rfl | hx
          · exact py
          · exact h2 x hx
    obtain ⟨h1, h2⟩ := key l os ol fun i o ho => by
      have hi : i < l.length := by rw [← ol]; exact (List.getElem?_eq_some_iff.mp ho).1
      rcases oR i l[i] o (List.getElem?_eq_getElem hi) ho with ⟨_, z⟩ | ⟨y, e, _, p⟩
      · cases z
      · exact ⟨y, e, p⟩
    exact ⟨l, _, h0, rfl, h1, h2⟩
theorem eqv_str {a b : Str} : D.eqv (.str a) (.str b) = PyData.eqv (.str a) (.str b) := rfl
end
end Fx
namespace Fx
open PySem PySem.Spec PyProof.Rows L2 LamX C8
theorem tab_uniq {T : List (Addr × Str)} (h : (T.map (·.1)).Nodup) : ∀ p ∈ T, ∀ q ∈ T, p.1 = q.1 → p.2 = q.2 := by
  induction T with
  | nil => intro p hp; cases hp
  | cons x r ih =>
    rw [List.map_cons, List.nodup_cons] at h
    intro p hp q hq e
    rcases List.mem_cons.mp hp with e1 | hp'
    · rcases List.mem_cons.mp hq with e2 | hq'
      · rw [e1, e2]
      · exact absurd (List.mem_map.mpr ⟨q, hq', by rw [← e, e1]⟩) h.1
    · rcases List.mem_cons.mp hq with e2 | hq'
      · exact absurd (List.mem_map.mpr ⟨p, hp', by rw [e, e2]⟩) h.1
      · exact ih h.2 p hp' q hq' e
theorem tabs_start {T : List (Addr × Str)} {H : Hp} (h : ∀ p ∈ T, H p.1 = some (.tbl #[])) : Tabs T H := fun p hp => ⟨#[], h p hp, (by simp [PySem.TriplesOk]), fun pos cv z => by cases z⟩
end Fx

set_option Elab.async false
set_option linter.all false
set_option maxRecDepth 100000
set_option maxHeartbeats 4000000
/-! try / except x as n, the caught exception kept as data behind the try. -/
namespace Fx
open PySem PySem.Spec PyProof.Rows L2 LamX
section
variable {X : Cx} {pins : List (Addr × Obj)} {σ : L2.St} {H : Hp} {s : Shared}
theorem unsuite1 {a : Addr} {oe : Obj} (I : Inv (X.suite a ((a, oe) :: (X.pn ++ pins))) [] σ H s) (ok : X.Ok) : Inv X ((a, oe) :: pins) σ H s :=
  ⟨ok, I.os, I.bare, I.base, I.loc, I.cell, I.free, I.freeC, fun p hp => I.pin p (by
    show p ∈ ((a, oe) :: (X.pn ++ pins)) ++ []
    rw [List.append_nil]
    rcases List.mem_append.mp hp with h | h
    · exact List.mem_cons_of_mem _ (List.mem_append_left _ h)
    · rcases List.mem_cons.mp h with h | h
      · rw [h]; exact List.mem_cons_self
      · exact List.mem_cons_of_mem _ (List.mem_append_right _ h)), I.hok, I.len⟩
theorem adoptX {a C : Addr} {d : Option Addr} {oe : Obj} (I : Inv X ((a, oe) :: pins) σ H s) (h0 : X.s_0.heap.get? a = none) (hp : ∀ p ∈ X.pn ++ pins, p.1 ≠ a) (hz : Zc (.ref C) d oe) (hf : ∃ vs, oe.data = .fields vs) :
    Inv X pins σ (upd H a (ExO C a d)) s ∧ H a = none := by
  obtain ⟨g1, g2, g3, g4, g5⟩ := I.pin (a, oe) (List.mem_append_right _ List.mem_cons_self)
  refine ⟨?_, g2⟩
  have ne0 : ∀ b u, X.s_0.heap.get? b = some u → b ≠ a := fun b u e z => by rw [z, h0] at e; cases e
  have neH : ∀ b u, H b = some u → b ≠ a := fun b u e => ne_of_none e g2
  obtain ⟨vs, hv⟩ := hf
  refine ⟨I.ok, I.os, I.bare, ⟨I.base.keep, I.base.slot, fun b u e n hx => ?_, I.base.there, fun b xs e => ?_, fun b ob u e => ?_, fun b ps e => ?_⟩, I.loc, I.cell, ?_, fun x c e => ?_, fun p hm => ?_, fun b u e => ?_, I.len⟩
  · rw [upd_ne (ne0 b u e)]
    exact I.base.free b u e n hx
  · have q := I.base.tups b xs e
    rw [upd_ne (neH b _ q)]
    exact q
  · have q := I.base.frzs b ob u e
    rw [upd_ne (neH b _ q)]
    exact q
  · obtain ⟨m, q⟩ := I.base.tbls b ps e
    exact ⟨m, by rw [upd_ne (neH b _ q)]; exact q⟩
  · rw [upd_ne (Ne.symm g3)]
    exact I.free
  · have nc : c ≠ a := fun z => by
      obtain ⟨v, o, ho, hd⟩ := I.cell x c e
      rw [z] at ho
      have g1 : s.heap.get? a = some oe := g1
      rw [g1] at ho
      cases ho
      rw [hv] at hd
      cases hd
    rw [upd_ne nc]
    exact I.freeC x c e
  · have hm' : p ∈ X.pn ++ ((a, oe) :: pins) := by
      rcases List.mem_append.mp hm with h | h
      · exact List.mem_append_left _ h
      · exact List.mem_append_right _ (List.mem_cons_of_mem _ h)
    obtain ⟨q1, q2, q3⟩ := I.pin p hm'
    exact ⟨q1, by rw [upd_ne (hp p hm)]; exact q2, q3⟩
  · by_cases hb : b = a
    · rw [hb, upd_same] at e
      cases e
      rw [hb]
      refine ⟨⟨oe, vs, g1, hz, hv⟩, ⟨_, g1⟩, fun h1 h2 ⟨o, us, e1, e2⟩ k => ⟨o, us, k o e1, e2⟩⟩
    · rw [upd_ne hb] at e
      refine (I.hok b u e).stay (fun c v _ q => q) (fun c q => ?_) fun c xs q => ?_
      · rw [upd_ne (neH c _ q)]; exact q
      · rw [upd_ne (neH c _ q)]; exact q
end
/-- the ends behind the suite: the name is gone, the exception is data -/
def endsX (i : Nat) (C a : Addr) (d : Option Addr) (D : Ends) : Ends := { nx := fun σ' H' => H' a = none → D.nx (σ'.set i none) (upd H' a (ExO C a d)), rt := fun v H' => H' a = none → D.rt v (upd H' a (ExO C a d)), bk := fun σ' H' => H' a = none → D.bk (σ'.set i none) (upd H' a (ExO C a d)), ct := fun σ' H' => H' a = none → D.ct (σ'.set i none) (upd H' a (ExO C a d)) }
def wAd (K : PySem.W.Frag) (c : Value) (m i : Nat) (ts : Addr → Addr → Option Addr → TS) (D : Ends) : WX := fun cls d σ H =>
  ∃ C, cls = .ref C ∧ PySem.W.exmOne K cls c = some true ∧ ∀ a, H a = none → σ.length = m → ts a C d (endsX i C a d D) (σ.set i (some (.ref a))) H
section
variable {X : Cx} {x n : Str} {c : Value} {i : Nat} {body suite : List Stmt} {b₀ : Stmt} {np pos pos' : Pos} {tb : WX → TS} {ts : Addr → Addr → Option Addr → TS}
theorem ps_try_adopt (hs : X.stack = X.env :: X.outer) (hf : X.env.frame = some X.env.locals) (hex : X.ex = []) (hN : X.N.Nodup) (hi : X.N[i]? = some n) (hln : X.env.kindOf n = some .local) (hc : Names X x c)
    (hb : ∀ (W : WX) (pn : List (Addr × Obj)) (xe : Value → Shared → Prop), Takes (X.tr pn xe) W → PassesOwn (model X.prog X.w) X.A X.env xe → PSs (X.tr pn xe) body (tb W))
    (hsu : ∀ (a : Addr) (oe : Obj) (C : Addr) (d : Option Addr) (pn : List (Addr × Obj)), Zc (.ref C) d oe → (∃ vs, oe.data = .fields vs) → PSs (X.suite a ((a, oe) :: pn)) (b₀ :: suite) (ts a C d)) :
    PS X (.Try body [.ExceptHandler (some (.Name x np)) (some n) (b₀ :: suite) pos'] [] [] pos) (fun D σ H => tb (wAd X.K c X.N.length i ts D) D σ H) := by
  refine ⟨fun pins s σ H D I h => ?_⟩
  have ok := I.ok
  have hfr : X.A.frames = some (X.env :: X.outer) := by rw [ok.frames, hs]
  have hloc : Loc X.env.scope n := .inl hln
  refine wpAny_Try_except ?_
  refine wpAny_mono ((hb (wAd X.K c X.N.length i ts D) (X.pn ++ pins) (fun e s₁ => wpAny (model X.prog X.w) X.A (noteFrame e X.env) (fun _ s₂ => wpAny (model X.prog X.w) X.A (setFlight e none) (fun _ s₃ =>
    wpAny (model X.prog X.w) X.A (handleBy e X.env [.ExceptHandler (some (.Name x np)) (some n) (b₀ :: suite) pos']) (SP X pins D) X.xe s₃) X.xe s₂) X.xe s₁) (fun u s' xx => ?_) PassesOwn.looking).run [] s σ H D (I.toTry _) h) (fun f s1 hsp => ?_) (fun e s1 he => he)
  · -- the catch
    obtain ⟨a, B, sI, pins', σ', H', cls, d, rfl, J', nb, up, sky, na, os, ag, C, rfl, hb1, hyes⟩ := xx
    have J : Inv X pins σ' H' sI := J'.ofTry ok
    have sky' : Sky B (X.env :: X.outer) a (Zc (.ref C) d) X.env.locals s'.heap := by rw [← hs]; exact sky
    show wpAny (model X.prog X.w) X.A (noteFrame (.ref a) X.env) _ _ _
    refine Sky.land Zc.steady hfr hf sky' fun h3 fl3 up3 => ?_
    have J3 : Inv X pins σ' H' { s' with heap := h3 } := J.landed nb fl3.1 (up.trans up3) os ag
    obtain ⟨oe3, vs3, he3, hz3, hd3⟩ := fl3.there
    have notFr : ∀ {h : Heap} {o : Obj} {vs : Array Value}, h.FunFrames B (X.env :: X.outer) → h.get? a = some o → o.data = .fields vs → a ∉ frs (X.env :: X.outer) := fun {h o vs} ff e dd hm => by
      obtain ⟨_, o', e', hnf⟩ := ff.mem hm
      rw [e] at e'; cases e'
      exact hnf _ dd
    have nfr := notFr fl3.2.2.1 he3 hd3
    have nfrS : a ∉ frs X.stack := by rw [hs]; exact nfr
    have nB : B.get? a = none := fl3.2.1
    have h0 : X.s_0.heap.get? a = none := by
      cases q : X.s_0.heap.get? a with
      | none => rfl
      | some o =>
        obtain ⟨o', e'⟩ := J.base.there a o q (by rw [hex]; simp)
        rw [nb a o' e' nfrS] at nB
        cases nB
    have hp : ∀ p ∈ X.pn ++ pins, p.1 ≠ a := fun p hm z => by
      have e := (J.pin p hm).1
      rw [z] at e
      rw [nb a _ e nfrS] at nB
      cases nB
    have nL : a ≠ X.env.locals := fun z => nfr (List.mem_filterMap.mpr ⟨X.env, List.mem_cons_self, by rw [hf, z]⟩)
    have nF : a ∉ X.fs := fun hm => by
      obtain ⟨e, he, q⟩ := List.mem_filterMap.mp hm
      exact nfr (List.mem_filterMap.mpr ⟨e, List.mem_cons_of_mem _ he, q⟩)
    have S3 := J3.suite he3 hd3 na nL nF
    refine wpAny_handleBy_cons (codeAny_handlers_test ?_) (by intro q; cases q)
    have LT : PySem.W.Looks (model X.prog X.w) h3 (typeOf (.ref a)) (.ref C) := fun A Q E s k q => wpAny_typeOf_ref (k _ _ he3) (by rw [hz3.1]; exact q)
    have LM := PySem.W.exm_one (M := model X.prog X.w) (J3.kIn) LT hb1
    have test : ∀ {Q : Value → Shared → Prop} {E : Value → Shared → Prop}, Q c { s' with heap := h3 } → wpAny (model X.prog X.w) (X.A.mark (some (.ref a))) (eval (.Name x np) X.env) Q E { s' with heap := h3 } := fun {Q E} q => by
      obtain ⟨hg, hdbg, hm | ⟨hm, hv, hnn⟩⟩ := hc
      · exact ld_glob (X := X.suite a ((a, oe3) :: (X.pn ++ pins))) S3 hg hm q hdbg
      · exact ld_blt (X := X.suite a ((a, oe3) :: (X.pn ++ pins))) S3 hg hm hv q hnn hdbg
    refine test (LM.here ?_)
    refine codeAny_handlers_suite_as ?_
    refine HandSPX.lands_againZ fl3 fun h4 fl4 up4 => ?_
    have J4 : Inv X pins σ' H' { s' with heap := h4 } := J.landed nb fl4.1 ((up.trans up3).trans up4) os ag
    obtain ⟨oe4, vs4, he4, hz4, hd4⟩ := fl4.there
    have S4 := J4.suite he4 hd4 na nL nF
    refine store_ok (X := X.suite a ((a, oe4) :: (X.pn ++ pins))) (v := .ref a) S4 hN hi hloc rfl (fun s5 S5 => ?_) (.inr hln)
    refine wpAny_mono ((hsu a oe4 C d (X.pn ++ pins) hz4 ⟨_, hd4⟩).run [] s5 _ H' _ S5 (hyes a na J.len)) (fun f s6 hsp => ?_) (fun _ _ z => False.elim z)
    have end_ : ∀ {σ6 : L2.St} {H6 : Hp} {Q : Shared → Prop}, Inv (X.suite a ((a, oe4) :: (X.pn ++ pins))) [] σ6 H6 s6 → (∀ s7, Inv X pins (σ6.set i none) (upd H6 a (ExO C a d)) s7 → H6 a = none → Q s7) →
        wpAny (model X.prog X.w) X.A (do bindName X.env n .none; unbindBehindTheSuite X.env n pos') (fun _ s7 => Q s7) X.xe s6 := fun {σ6 H6 Q} S6 hq =>
      gone_ok (unsuite1 S6 ok) hN hi hln fun s7 J7 => by
        obtain ⟨J8, n8⟩ := adoptX J7 h0 hp hz4 ⟨_, hd4⟩
        exact hq s7 J8 n8
    cases f with
    | next =>
      obtain ⟨σ6, H6, S6, q6⟩ := hsp
      exact end_ S6 fun s7 J7 n7 => ⟨_, _, J7, q6 n7⟩
    | brk =>
      obtain ⟨σ6, H6, S6, q6⟩ := hsp
      exact end_ S6 fun s7 J7 n7 => ⟨_, _, J7, q6 n7⟩
    | cont =>
      obtain ⟨σ6, H6, S6, q6⟩ := hsp
      exact end_ S6 fun s7 J7 n7 => ⟨_, _, J7, q6 n7⟩
    | ret u =>
      obtain ⟨v6, σ6, H6, S6, r6, q6⟩ := hsp
      exact end_ S6 fun s7 J7 n7 => ⟨_, _, _, J7, r6, q6 n7⟩
  · cases f with
    | next =>
      obtain ⟨σ', H', J', q⟩ := hsp
      exact wpAny_execs_nil ⟨σ', H', J'.ofTry ok, q⟩
    | brk =>
      obtain ⟨σ', H', J', q⟩ := hsp
      exact ⟨σ', H', J'.ofTry ok, q⟩
    | cont =>
      obtain ⟨σ', H', J', q⟩ := hsp
      exact ⟨σ', H', J'.ofTry ok, q⟩
    | ret u =>
      obtain ⟨v, σ', H', J', r, q⟩ := hsp
      exact ⟨v, σ', H', J'.ofTry ok, r, q⟩
end
/-! ### the def that catches -/
/-- told: run it; None, or the exception -/
def TCau (K : PySem.W.Frag) (CS : Addr) : (XK → Hp → VK → Prop) → Hp → VK → Prop := fun tl H Q =>
  tl (fun cls d H' => ∃ C, cls = .ref C ∧ PySem.W.exmOne K cls (.ref CS) = some true ∧ ∀ a, H' a = none → Q (.ref a) (upd H' a (ExO C a d))) H (fun _ H' => Q .non H')
section
variable {X : Cx}
/-- try: a() / except e as y: return y / return None -/
theorem cau_gives1 {Ng : List Str} {x a e y q : Str} {sg : Scope} {g CS : Addr} {cdg : Value} {j : Nat} {p1 p2 p3 p4 p5 p6 p7 p8 p9 p10 : Pos} (hge : sg.names.lookup e = some .globalImplicit) (hme : X.mg e = some (.ref CS)) (hde : (e == ("__debug__" : Str)) = false)
    (hN : Ng = [a, y]) (hnd : Ng.Nodup) (hly : sg.names.lookup y = some .local) (hdy : (y == ("__debug__" : Str)) = false := by decide) (hcy : (y == ("__classdict__" : Str)) = false := by decide) :
    GivesTo X Ng x sg g cdg [.Try [.Expr (.Call (.Name a p1) [] [] p2) p3] [.ExceptHandler (some (.Name e p4)) (some y) [.Return (some (.Name y p5)) p6] p7] [] [] p8, .Return (some (.Constant .none j p9)) p10] a q (TCau X.K CS) := by
  subst hN
  intro f c' s H Q tl act hc h
  have hgl : Gl (cxOf C8.CX0 X.prog X.w X.K X.mg X.base [a, y] x sg g cdg X.A X.stack s H C8.E0).nox e := hge
  refine ⟨_, pss_cons (ps_try_adopt (X := (cxOf C8.CX0 X.prog X.w X.K X.mg X.base [a, y] x sg g cdg X.A X.stack s H C8.E0).nox) (c := .ref CS) (i := 1)
      (tb := fun W D σ H => ∃ Ech : XK, (∀ cls d σ' H', Ech cls d H' → W cls d σ' H') ∧ σ[0]? = some (some (.ref f)) ∧ H c' = some (CodeO c' q) ∧ tl Ech H (fun _ H' => D.nx σ H'))
      (ts := fun _ _ _ => tRet (tVar 1))
      rfl rfl rfl hnd rfl hly ⟨hgl, hde, .inl hme⟩ (fun W pn xe tk _ => ?_) (fun b oe C d pn _ _ => pss_one (ps_ret (pe_var rfl (.inl hly) hdy hcy)))) (pss_one (ps_ret pe_non)), ?_⟩
  · refine ⟨fun pins s' σ H' D I h' => ?_⟩
    obtain ⟨Ech, hW, h1, h2, h3⟩ := h'
    have hp := act W pn xe Ech p1 p2 tk hW
    have hq := pss_one (ps_expr (pos := p3) hp)
    exact hq.run pins s' σ H' D I ⟨h1, h2, h3⟩
  · refine ⟨fun cls d H' => ∃ C, cls = .ref C ∧ PySem.W.exmOne X.K cls (.ref CS) = some true ∧ ∀ a, H' a = none → Q (.ref a) (upd H' a (ExO C a d)), fun cls d σ' H' hh => ?_, rfl, hc, h⟩
    obtain ⟨C, e1, e2, e3⟩ := hh
    refine ⟨C, e1, e2, fun b hb hl => ⟨.ref b, ?_, fun _ => e3 b hb⟩⟩
    exact List.getElem?_set_self (by rw [hl]; exact (by decide : 1 < 2))
/-- n = None / try: a() / except e as y: n = y / return n -/
theorem cau_gives2 {Ng : List Str} {x a n e y q : Str} {sg : Scope} {g CS : Addr} {cdg : Value} {j : Nat} {p1 p2 p3 p4 p5 p6 p7 p8 p9 p10 p11 p12 p13 p14 : Pos} (hge : sg.names.lookup e = some .globalImplicit) (hme : X.mg e = some (.ref CS)) (hde : (e == ("__debug__" : Str)) = false)
    (hN : Ng = [a, n, y]) (hnd : Ng.Nodup) (hln : sg.names.lookup n = some .local) (hdn : (n == ("__debug__" : Str)) = false) (hcn : (n == ("__classdict__" : Str)) = false) (hly : sg.names.lookup y = some .local) (hdy : (y == ("__debug__" : Str)) = false := by decide) (hcy : (y == ("__classdict__" : Str)) = false := by decide) :
    GivesTo X Ng x sg g cdg [.Assign [.Name n p11] (.Constant .none j p9) p12, .Try [.Expr (.Call (.Name a p1) [] [] p2) p3] [.ExceptHandler (some (.Name e p4)) (some y) [.Assign [.Name n p13] (.Name y p5) p6] p7] [] [] p8, .Return (some (.Name n p14)) p10] a q (TCau X.K CS) := by
  subst hN
  intro f c' s H Q tl act hc h
  have hgl : Gl (cxOf C8.CX0 X.prog X.w X.K X.mg X.base [a, n, y] x sg g cdg X.A X.stack s H C8.E0).nox e := hge
  refine ⟨_, pss_cons (ps_set (i := 1) hnd rfl (.inl hln) pe_non) (pss_cons (ps_try_adopt (X := (cxOf C8.CX0 X.prog X.w X.K X.mg X.base [a, n, y] x sg g cdg X.A X.stack s H C8.E0).nox) (c := .ref CS) (i := 2)
      (tb := fun W D σ H => ∃ (Ech : XK) (Qn : Hp → Prop), (∀ cls d σ' H', Ech cls d H' → W cls d σ' H') ∧ (∀ H', Qn H' → D.nx σ H') ∧ σ[0]? = some (some (.ref f)) ∧ H c' = some (CodeO c' q) ∧ tl Ech H (fun _ H' => Qn H'))
      (ts := fun _ _ _ => tAsg (tVar 2) (gName 1))
      rfl rfl rfl hnd rfl hly ⟨hgl, hde, .inl hme⟩ (fun W pn xe tk _ => ?_) (fun b oe C d pn _ _ => pss_one (ps_set (i := 1) hnd rfl (.inl hln) (pe_var rfl (.inl hly) hdy hcy)))) (pss_one (ps_ret (pe_var (i := 1) rfl (.inl hln) hdn hcn)))), ?_⟩
  · refine ⟨fun pins s' σ H' D I h' => ?_⟩
    obtain ⟨Ech, Qn, hW, hQ, h1, h2, h3⟩ := h'
    have hp := act W pn xe Ech p1 p2 tk hW
    refine (pss_one (t := fun D σ H => (∀ H', Qn H' → D.nx σ H') ∧ σ[0]? = some (some (V.ref f)) ∧ H c' = some (CodeO c' q) ∧ tl Ech H (fun _ H' => Qn H')) ⟨fun pins s σ H D I h => ?_⟩).run pins s' σ H' D I ⟨hQ, h1, h2, h3⟩
    obtain ⟨hQ, h1, h2, h3⟩ := h
    exact wpAny_Expr_any (thn (hp.run pins s σ H _ I ⟨h1, h2, h3⟩) fun v s1 ⟨x, H1, I1, r1, q1⟩ => ⟨σ, H1, I1, hQ H1 q1⟩) I.quiet (by rfl)
  · refine ⟨fun cls d H' => ∃ C, cls = .ref C ∧ PySem.W.exmOne X.K cls (.ref CS) = some true ∧ ∀ a, H' a = none → Q (.ref a) (upd H' a (ExO C a d)), fun H' => Q .non H', fun cls d σ' H' hh => ?_, fun H' q => ⟨.non, rfl, q⟩, rfl, hc, h⟩
    · obtain ⟨C, e1, e2, e3⟩ := hh
      refine ⟨C, e1, e2, fun b hb hl => ⟨.ref b, ?_, fun _ => ⟨.ref b, ?_, e3 b hb⟩⟩⟩
      · exact List.getElem?_set_self (by rw [hl]; exact (by decide : 2 < 3))
      · have hl : σ'.length = 3 := hl
        match σ', hl with
        | [x0, x1, x2], _ => rfl
end
end Fx

set_option Elab.async false
set_option linter.all false
set_option maxRecDepth 100000
set_option maxHeartbeats 4000000
/-! Defs that may raise; the caught exception as data. -/
namespace Fx
open PySem PySem.Spec PyProof.Rows L2 LamX
/-- what a def ends in -/
inductive Rs where
  | ret (d : D) | exc (C : Addr) (fs : List (Str × D))
def Rs.Ok (T : List (Addr × Str)) (G H : Hp) (Q : VK) (E : XK) : Rs → Prop
  | .ret d => ∀ v G2 H2, Stp (W0 T) G H G2 H2 → GOk (W0 T) G2 H2 → Tabs T H2 → Rp G2 v d → Q v H2
  | .exc C fs => ∀ dd G2 H2, Stp (W0 T) G H G2 H2 → GOk (W0 T) G2 H2 → Tabs T H2 → XDat G2 dd fs → E (.ref C) dd H2
/-- a def of data that may raise -/
def SpR (T : List (Addr × Str)) (f : List D → Rs → Prop) : Sp := fun vs H Q E => ∃ G ds r, GOk (W0 T) G H ∧ Tabs T H ∧ RpL G vs ds ∧ f ds r ∧ r.Ok T G H Q E
/-- None, or the exception -/
def Rs.cau : Rs → D
  | .ret _ => .non
  | .exc C fs => .exc C fs
section
variable {T : List (Addr × Str)} {W : Wld T} {G H G1 H1 G2 H2 H0 : Hp} {G0 : Hp × Hp} {c c' k : Nat} {K : PySem.W.Frag} {f : List D → Rs → Prop}
/-! ### the body -/
def poR (E : XK) (r : Rs) : Po := ⟨fun _ _ => r = .ret .non, fun d _ => r = .ret d, fun _ _ => False, fun _ _ => False, E, fun C fs _ => r = .exc C fs⟩
theorem body_R {t : TS} {N : List Str} {vs : List V} {Q : VK} {E : XK} (h : SpR T f vs H Q E) (hn : vs.length ≤ N.length) (hb : ∀ ds r, f ds r → Tr (W0 T) t (env0 ds (N.length - ds.length)) 0 (poR E r)) :
    t { nx := fun _ H' => Q .non H', rt := Q } (L2.start N vs) H := by
  obtain ⟨G, ds, r, g, tb, rr, hf, q⟩ := h
  refine hb ds r hf (G, G) H _ G H (at_start (W := W0 T) (c := 0) g tb rr (by rw [← rr.len]; exact hn)) _ ⟨fun σ2 e2 c2 G2 H2 A2 e => ?_, fun v d2 c2 G2 H2 s g j r2 e => ?_, fun _ _ _ _ _ _ z => z.elim, fun _ _ _ _ _ _ z => z.elim, fun C fs d c2 G2 H2 s g j x e => ?_⟩
  · have e : r = .ret .non := e
    subst e
    exact q .non G2 H2 A2.st A2.gok A2.j .non
  · have e : r = .ret d2 := e
    subst e
    exact q v G2 H2 s g j r2
  · have e : r = .exc C fs := e
    subst e
    exact q d G2 H2 s g j x
/-- a def of the module that may raise -/
structure CalX (P : Program) (w : World) (K : PySem.W.Frag) (mg : Str → Option Value) (base : Heap) (k : Nat) (x : Str) (sp : Sp) : Prop where
  ex : ∃ (f : Addr) (fd : FuncData) (ps : List Str), FnOk P w K mg base (L2.CX P w) k f fd ps sp ∧ mg x = some (.ref f) ∧ PySem.W.keepIn K (.ref f) = true ∧ Binds K fd ps []
/-- .. and by its parameters' names, told from the last one -/
structure CalXK (P : Program) (w : World) (K : PySem.W.Frag) (mg : Str → Option Value) (base : Heap) (k : Nat) (x : Str) (ps : List Str) (sp : Sp) : Prop where
  ex : ∃ (f : Addr) (fd : FuncData), FnOk P w K mg base (L2.CX P w) k f fd ps sp ∧ mg x = some (.ref f) ∧ PySem.W.keepIn K (.ref f) = true ∧ Binds K fd ps [] ∧ ∀ us : List Value, us.length = ps.length → bindArgs fd ⟨[], ps.reverse.zip us⟩ = pure (ps.zip us.reverse)
theorem CalXK.x {P : Program} {w : World} {K : PySem.W.Frag} {mg : Str → Option Value} {base : Heap} {k : Nat} {x : Str} {ps : List Str} {sp : Sp} (c : CalXK P w K mg base k x ps sp) : CalX P w K mg base k x sp := by
  obtain ⟨f, fd, h1, h2, h3, h4, _⟩ := c.ex
  exact ⟨f, fd, ps, h1, h2, h3, h4⟩
structure DfK (K : PySem.W.Frag) (mg : Str → Option Value) (x : Str) (st : Stmt) (ps : List Str) (cdv : Value) : Prop where
  ex : ∃ (f : Addr) (oc : Value) (od : Option Addr) (kV doc pm : Value) (an : Option Addr) (ct : Value) (osl : Array (Option Value)),
    K.lookup f = some ⟨oc, od, .func (PySem.W.fnOf x x (C8.fnArgs st) (C8.fnBody st) (C8.fnScope st) .none kV doc pm an cdv ct), osl⟩ ∧ PySem.W.codeIn K cdv x = true ∧ mg x = some (.ref f) ∧ PySem.W.keepIn K (.ref f) = true ∧
      Binds K (PySem.W.fnOf x x (C8.fnArgs st) (C8.fnBody st) (C8.fnScope st) .none kV doc pm an cdv ct) ps [] ∧ ∀ us : List Value, us.length = ps.length → bindArgs (PySem.W.fnOf x x (C8.fnArgs st) (C8.fnBody st) (C8.fnScope st) .none kV doc pm an cdv ct) ⟨[], ps.reverse.zip us⟩ = pure (ps.zip us.reverse)
theorem SpR.len {vs : List V} {Q : VK} {E : XK} {n : Nat} (len : ∀ ds r, f ds r → ds.length = n) (h : SpR T f vs H Q E) : vs.length = n := by
  obtain ⟨G, ds, r, _, _, rr, hf, _⟩ := h
  rw [rr.len, len ds r hf]
section
variable {P : Program} {w : World} {mg : Str → Option Value} {base : Heap}
theorem calX {x : Str} {st : Stmt} {N ps : List Str} {k : Nat} {cdv : Value} (F : Df K mg x st ps cdv) (S : C8.scC N ps (C8.fnScope st) = true) (len : ∀ ds r, f ds r → ds.length = ps.length)
    (hbody : ∀ (a : Addr) (A : Around) (outer : List Env) (s : Shared) (H : Hp) (E : XK), Room k (A.deeper (envOfC x (C8.fnScope st) s.heap.objs.size a cdv)) →
      ∃ t, PSs (cxOf (L2.CX P w) P w K mg base N x (C8.fnScope st) a cdv A outer s H E) (C8.fnBody st) t ∧ ∀ ds r, f ds r → Tr (W0 T) t (env0 ds (N.length - ds.length)) 0 (poR E r)) : CalX P w K mg base (k + 1) x (SpR T f) := by
  obtain ⟨fa, oc, od, kV, doc, pm, an, ct, osl, lk, hcd, hm, kp, hb⟩ := F.ex
  have hn : ps.length ≤ N.length := by
    have := (C8.fnScope_by S).pre
    rw [← this, List.length_take]
    omega
  refine ⟨fa, _, ps, fn_of lk hcd (C8.fnScope_by S) (fun vs H Q E h => h.len len) fun A outer s H vs Q E hr hsp => ?_, hm, kp, hb⟩
  obtain ⟨t, h, q⟩ := hbody fa A outer s H E hr
  exact ⟨t, h, body_R hsp (by rw [hsp.len len]; exact hn) q⟩
theorem calXK {x : Str} {st : Stmt} {N ps : List Str} {k : Nat} {cdv : Value} (F : DfK K mg x st ps cdv) (S : C8.scC N ps (C8.fnScope st) = true) (len : ∀ ds r, f ds r → ds.length = ps.length)
    (hbody : ∀ (a : Addr) (A : Around) (outer : List Env) (s : Shared) (H : Hp) (E : XK), Room k (A.deeper (envOfC x (C8.fnScope st) s.heap.objs.size a cdv)) →
      ∃ t, PSs (cxOf (L2.CX P w) P w K mg base N x (C8.fnScope st) a cdv A outer s H E) (C8.fnBody st) t ∧ ∀ ds r, f ds r → Tr (W0 T) t (env0 ds (N.length - ds.length)) 0 (poR E r)) : CalXK P w K mg base (k + 1) x ps (SpR T f) := by
  obtain ⟨fa, oc, od, kV, doc, pm, an, ct, osl, lk, hcd, hm, kp, hb, hb2⟩ := F.ex
  have hn : ps.length ≤ N.length := by
    have := (C8.fnScope_by S).pre
    rw [← this, List.length_take]
    omega
  refine ⟨fa, _, fn_of lk hcd (C8.fnScope_by S) (fun vs H Q E h => h.len len) fun A outer s H vs Q E hr hsp => ?_, hm, kp, hb, hb2⟩
  obtain ⟨t, h, q⟩ := hbody fa A outer s H E hr
  exact ⟨t, h, body_R hsp (by rw [hsp.len len]; exact hn) q⟩
end
/-! ### raise, calls of such defs -/
/-- a class without __init__ of its own -/
structure XCl (K : PySem.W.Frag) (mg : Str → Option Value) (x : Str) (C : Addr) : Prop where
  mgC : mg x = some (.ref C)
  xin : PySem.W.excIn K C [.type "ValueError", .type "Exception", .type "BaseException", .type "object"] "ValueError.__new__" = true
  kp : PySem.W.keepIn K (.ref C) = true
  sub : PySem.W.subIn K (.ref C) (.type "BaseException") = some true
  ty : PySem.W.typeIn K (.ref C) = some (.type "type")
def tRaise (C : Addr) (E : XK) : TS := fun _ _ H => E (.ref C) none H
section
variable {X : Cx} {i j : Nat} {C : Addr} {x m : Str} {sp : Sp} {E : XK} {p p2 pos pos2 : Pos} {e : Expr} {es : List Expr} {t : TA}
theorem ps_rz (q : XCl X.K X.mg x C) (hc : X.calm = true) (tk : Takes X (fun cls d _ H => E cls d H)) (hg : Gl X x) (hdb : (x == ("__debug__" : Str)) = false := by decide) : PS X (.Raise (some (.Call (.Name x p) [.Constant (.str m) i p2] [] pos)) none pos2) (tRaise C E) :=
  ps_raise hc tk (pmk_own PySem.F.excBase_ValueError q.xin q.mgC q.kp (raises_own q.sub q.ty) hg hdb)
theorem pe_cx {k : Nat} (c : CalX X.prog X.w X.K X.mg X.base k x sp) (hr : Room j X.A) (hk : k ≤ j) (hg : Gl X x) (tk : Takes X (fun cls d _ H => E cls d H)) (ha : PA X (e :: es) t)
    (hdb : (x == ("__debug__" : Str)) = false := by decide) (he : starEach (e :: es) X.env = (false, eval e X.env) :: starEach es X.env := by rfl) (hpl : (backTo pos (starEach es X.env)).any (·.1) = false := by rfl) :
    PE X (.Call (.Name x p) (e :: es) [] pos) (tCall sp [] E t) := by
  obtain ⟨f, fd, ps, F, hm, kp, b⟩ := c.ex
  exact pe_call F (hr.mono hk) hg hm kp b .nil (passes_call tk fun _ _ _ _ h => h) ha hdb he hpl
theorem takesN {X : Cx} : Takes X (fun cls d _ H => (fun _ _ _ => False : XK) cls d H) := takes0
/-- all arguments by name, from the last one -/
def tCallR (sp : Sp) (E : XK) (n : Nat) (t : TA) : TE := fun σ H Q => t σ H fun vs H1 => vs.length = n ∧ sp vs.reverse H1 Q E
theorem vals_rev : ∀ {vs : List V} {us : List Value}, Vals vs us → Vals vs.reverse us.reverse
  | _, _, .nil => .nil
  | _, _, .cons h r => by
    rw [List.reverse_cons, List.reverse_cons]
    exact (vals_rev r).append (.cons h .nil)
theorem pe_cxk {k : Nat} {ps : List Str} {kws : List Keyword} (c : CalXK X.prog X.w X.K X.mg X.base k x ps sp) (hr : Room j X.A) (hk : k ≤ j) (hg : Gl X x) (tk : Takes X (fun cls d _ H => E cls d H)) (hkw : PK X kws t)
    (hall : (backToKw pos (keywordEach kws X.env)).all (·.1.isSome) = true := by rfl) (hks : (backToKw pos (keywordEach kws X.env)).filterMap (·.1) = ps.reverse := by rfl) (hdb : (x == ("__debug__" : Str)) = false := by decide)
    (hpl : ((backTo pos (starEach [] X.env)).any (·.1) || (backToKw pos (keywordEach kws X.env)).any (·.1.isNone)) = false := by rfl) :
    PE X (.Call (.Name x p) [] kws pos) (tCallR sp E ps.length t) := by
  obtain ⟨f, fd, F, hm, kp, _, b⟩ := c.ex
  refine ⟨fun pins s σ H Q I h => ?_⟩
  refine wpAny_Call_Name_kw (ld_glob I hg hm ?_ hdb)
  refine PySem.W.callWith_KW0 (h₀ := X.base) I.ok.mod.kin kp hall ?_ hpl
  refine thn (hkw.run pos pins s σ H _ I h) fun ws s2 ⟨zs, H2, I2, rz, l1, q2⟩ => ⟨I2.kIn, ?_⟩
  rw [hks]
  have hl : ws.length = ps.length := by rw [← rz.length]; exact l1
  refine wpAny_call (codeAny_mono (F.run X.A X.stack s2 H2 ⟨[], ps.reverse.zip ws⟩ ws.reverse zs.reverse Q E (hr.mono hk) I2.env0 (.of_eq (b ws hl)) (vals_rev rz) q2) fun r s' hq => ?_)
  cases r with
  | error e => exact passes_call tk (fun _ _ _ _ h => h) pins σ H2 s2 e s' I2 hq
  | ok fl =>
    cases fl with
    | ret u => exact I2.after hq
    | next => exact False.elim hq
    | brk => exact False.elim hq
    | cont => exact False.elim hq
end
/-! ### the rules for data -/
theorem okR_ret {Q : VK} {E : XK} {d : D} (g : GOk W G H) (j : W.J c H) (q : ∀ v G2 H2, Stp W G H G2 H2 → GOk W G2 H2 → W.J c H2 → Rp G2 v d → Q v H2) : (Rs.ret d).Ok T G H Q E := fun v G2 H2 s g2 t r => q v G2 H2 s.lift (g.lift j s g2) (J_lift j s t) r
theorem okR_exc {Q : VK} {E : XK} {C : Addr} {fs : List (Str × D)} (g : GOk W G H) (j : W.J c H) (q : ∀ dd G2 H2, Stp W G H G2 H2 → GOk W G2 H2 → W.J c H2 → XDat G2 dd fs → E (.ref C) dd H2) : (Rs.exc C fs).Ok T G H Q E := fun dd G2 H2 s g2 t r => q dd G2 H2 s.lift (g.lift j s g2) (J_lift j s t) r
theorem ed_callR {E : XK} {ta : TA} {env : Env'} {ds : List D} {d : D} (h : EA W ta env ds) (hf : f ds (.ret d)) : ED W (tCall (SpR T f) [] E ta) env d := fun c G0 H0 σ G H A Q q =>
  h c G0 H0 σ G H A _ fun vs G1 H1 s1 g1 j1 r1 => by
    rw [List.append_nil]
    exact ⟨G1, ds, _, g1.drop, W.tabs j1, r1, hf, okR_ret g1 j1 fun v G2 H2 s g j r => q v G2 H2 (s1.trans s) g j r⟩
theorem RpL.rev {G : Hp} : ∀ {vs : List V} {ds : List D}, RpL G vs ds → RpL G vs.reverse ds.reverse
  | _, _, .nil => .nil
  | _, _, .cons h r => by
    rw [List.reverse_cons, List.reverse_cons]
    exact (RpL.rev r).app (.cons h .nil)
theorem ed_callRk {E : XK} {ta : TA} {env : Env'} {ds : List D} {d : D} {n : Nat} (h : EA W ta env ds) (hn : ds.length = n) (hf : f ds.reverse (.ret d)) : ED W (tCallR (SpR T f) E n ta) env d := fun c G0 H0 σ G H A Q q =>
  h c G0 H0 σ G H A _ fun vs G1 H1 s1 g1 j1 r1 => by
    refine ⟨by rw [r1.len]; exact hn, ?_⟩
    exact ⟨G1, ds.reverse, _, g1.drop, W.tabs j1, r1.rev, hf, okR_ret g1 j1 fun v G2 H2 s g j r => q v G2 H2 (s1.trans s) g j r⟩
/-- an expression that raises -/
def EXc (W : Wld T) (te : TE) (env : Env') (E : XK) (C : Addr) (fs : List (Str × D)) : Prop := ∀ c G0 H0 σ G H, At W G0 H0 c G H σ env → (∀ dd G2 H2, Stp W G H G2 H2 → GOk W G2 H2 → W.J c H2 → XDat G2 dd fs → E (.ref C) dd H2) → ∀ Q : VK, te σ H Q
theorem ex_callR {E : XK} {ta : TA} {env : Env'} {ds : List D} {C : Addr} {fs : List (Str × D)} (h : EA W ta env ds) (hf : f ds (.exc C fs)) : EXc W (tCall (SpR T f) [] E ta) env E C fs := fun c G0 H0 σ G H A q Q =>
  h c G0 H0 σ G H A _ fun vs G1 H1 s1 g1 j1 r1 => by
    rw [List.append_nil]
    exact ⟨G1, ds, _, g1.drop, W.tabs j1, r1, hf, okR_exc g1 j1 fun v G2 H2 s g j r => q v G2 H2 (s1.trans s) g j r⟩
section
variable {env : Env'} {po : Po} {te : TE} {u : TS} {C : Addr} {fs : List (Str × D)}
theorem tr_raise (h : po.xP C [] c) : Tr W (tRaise C po.xE) env c po := fun G0 H0 σ G H A E F => F.xx C [] none c G H A.st A.gok A.j rfl h
theorem trx {Q : VK} {σ : L2.St} {E : Ends} (h : EXc W te env po.xE C fs) (hp : po.xP C fs c) (A : At W G0 H0 c G H σ env) (F : Fits W G0 H0 po E) : te σ H Q :=
  h c _ _ _ _ _ A (fun dd G2 H2 s g j x => F.xx C fs dd c G2 H2 (A.st.trans s) g j x hp) Q
theorem tr_dropX (h : EXc W te env po.xE C fs) (hp : po.xP C fs c) : Tr W (tSeq (tDrop te) u) env c po := fun G0 H0 σ G H A E F => trx h hp A F
theorem tr_dropX1 (h : EXc W te env po.xE C fs) (hp : po.xP C fs c) : Tr W (tDrop te) env c po := fun G0 H0 σ G H A E F => trx h hp A F
theorem tr_drop1 {d : D} (h : ED W te env d) (k : po.nx env c) : Tr W (tDrop te) env c po := fun G0 H0 σ G H A E F =>
  h c G0 H0 σ G H A _ fun v G1 H1 s1 g1 j1 r1 => F.nx _ _ _ _ _ (A.step s1 g1 j1) k
theorem tr_retX (h : EXc W te env po.xE C fs) (hp : po.xP C fs c) : Tr W (tRet te) env c po := fun G0 H0 σ G H A E F => trx h hp A F
theorem tr_tgX {g : TG} (h : EXc W te env po.xE C fs) (hp : po.xP C fs c) : Tr W (tSeq (tAsg te g) u) env c po := fun G0 H0 σ G H A E F => trx h hp A F
end
/-- the def that catches, called with a lambda -/
theorem ed_cau {ta : XK → TA} {env : Env'} {ds : List D} {r : Rs} {CS : Addr} (h : ∀ E, EA W (ta E) env ds) (hf : f ds r) (hx : ∀ C fs, r = .exc C fs → PySem.W.exmOne K (.ref C) (.ref CS) = some true) :
    ED W (tLam T (TCau K CS) fun E => tCall (SpR T f) [] E (ta E)) env r.cau := fun c G0 H0 σ G H A Q q => by
  refine ⟨W.tabs A.j, fun H1 e1 t1 => ?_⟩
  have s1 := stp_extN A.gok e1
  have g1 := gok_extN A.gok e1
  have j1 := J_extN A.j e1 t1
  refine h _ c G0 H0 σ G H1 (A.step s1 g1 j1) _ fun vs G2 H2 s2 g2 j2 r2 => ?_
  rw [List.append_nil]
  refine ⟨G2, ds, r, g2.drop, W.tabs j2, r2, hf, ?_⟩
  cases r with
  | ret d => exact okR_ret g2 j2 fun v G3 H3 s3 g3 j3 r3 => q .non G3 H3 ((s1.trans s2).trans s3) g3 j3 .non
  | exc C fs =>
    refine okR_exc g2 j2 fun dd G3 H3 s3 g3 j3 x3 => ?_
    refine ⟨C, rfl, hx C fs rfl, fun a ha => ?_⟩
    have sn := same_new (g3.none ha) (ExO C a dd)
    exact q (.ref a) _ _ (((s1.trans s2).trans s3).trans (stp_new g3 ha)) (gok_new g3 j3 ha (noTb_ext _)) (J_new j3 ha) ((x3.mono sn).rp upd_same)
/-! ### isinstance, fields -/
/-- isinstance(e, c), e an exception that is kept -/
def rIsX (K : PySem.W.Frag) : List V → Hp → VK → Prop := fun xs H Q => ∃ (a C : Addr) (d : Option Addr) (c : V) (u : Value) (b : Bool), xs = [.ref a, c] ∧ H a = some (ExO C a d) ∧ (∀ dd, d = some dd → ∃ fs, H dd = some (.xd fs)) ∧ ClsV c u ∧ ExcC K C ∧ PySem.W.kitOne K (.ref C) u = some b ∧ Q (.bl b) H
def rIsU (K : PySem.W.Frag) : List V → Hp → VK → Prop := fun xs H Q => rIsi K xs H Q ∨ rIsX K xs H Q
theorem inst_at {X : Cx} {pins : List (Addr × Obj)} {σ : L2.St} {s : Shared} {a C : Addr} {d : Option Addr} (I : Inv X pins σ H s) (h : H a = some (ExO C a d)) (hd : ∀ dd, d = some dd → ∃ fs, H dd = some (.xd fs)) : ∃ oe od, PySem.W.InstAt s.heap a oe C od := by
  obtain ⟨⟨oe, vs, g, hz, hv⟩, _, _⟩ := I.hok a _ h
  refine ⟨oe, ?_⟩
  cases d with
  | none => exact ⟨none, g, hz.1, by unfold PySem.W.notCls; rw [hv] <;> rfl, by rw [hz.2]; trivial⟩
  | some dd =>
    obtain ⟨fs, e⟩ := hd dd rfl
    have hx : ObjOk X.prog X.w H s.heap dd (.xd fs) := I.hok dd _ e
    obtain ⟨mA, hns, hr⟩ := hx
    obtain ⟨od, ho, hl⟩ := lookIn_ns hns
    exact ⟨some od, g, hz.1, by unfold PySem.W.notCls; rw [hv] <;> rfl, by rw [hz.2]; exact ho⟩
theorem call_isX {X : Cx} : CallR X (.builtin "isinstance") (rIsX X.K) := by
  intro pins s σ H xs us Q I r h
  obtain ⟨a, C, d, c, u, b, rfl, ha, hd, k, ec, e, q⟩ := h
  obtain ⟨u1, u2, rfl, r1, r2⟩ := vals2 r
  have e2 := k.eq r2
  subst e2
  obtain rfl : u1 = Value.ref a := r1
  obtain ⟨oe, od, J⟩ := inst_at I ha hd
  obtain ⟨cd, hc, _⟩ := PySem.W.any_some ec.hd
  exact PySem.W.kia_one (PySem.W.kitx_exc (by rw [hc]; rfl) ec.hg ec.hk ec.hs ec.ha ec.hn ec.ht ec.hm) I.kIn J e (fun z => nomatch z) fun tk => ⟨.bl b, H, I.tok tk, rfl, q⟩
theorem call_isU {X : Cx} : CallR X (.builtin "isinstance") (rIsU X.K) := fun pins s σ H xs us Q I r h => h.elim (fun h => call_isi pins s σ H xs us Q I r h) fun h => call_isX pins s σ H xs us Q I r h
theorem rdl_isX {C C2 : Addr} {fs : List (Str × D)} {b : Bool} (ec : ExcC K C) (hk : PySem.W.kitOne K (.ref C) (.ref C2) = some b) : RDL W (rIsU K) [.exc C fs, .raw (.ref C2)] (.bl b) := fun c G H vs g j r Q q => by
  cases r with
  | cons r1 r2 =>
    cases r2 with
    | cons r2 r3 =>
      cases r3
      cases r2
      cases r1 with
      | exc0 h => exact .inr ⟨_, C, none, _, _, b, rfl, g.same _ _ h, (fun dd z => by cases z), .own C2, ec, hk, q.here g j (.bl _)⟩
      | @exc1 _ _ dd _ _ h h' rf => exact .inr ⟨_, C, some dd, _, _, b, rfl, g.same _ _ h, (fun e z => by cases z; exact ⟨_, g.same _ _ h'⟩), .own C2, ec, hk, q.here g j (.bl _)⟩
theorem rdl_isN {D : Addr} {b : Bool} (hk : PySem.W.kitOne K (.type "NoneType") (.ref D) = some b) : RDL W (rIsU K) [.non, .raw (.ref D)] (.bl b) := fun c G H vs g j r Q q => by
  cases r with
  | cons r1 r2 =>
    cases r2 with
    | cons r2 r3 =>
      cases r3
      cases r2
      cases r1
      exact .inl ⟨_, _, _, _, b, rfl, .own D, .base .non, hk, q.here g j (.bl _)⟩
/-- e.n -/
def tFld (K : PySem.W.Frag) (n : Str) (te : TE) : TE := fun σ H Q => te σ H fun x H1 => ∃ (a C dd : Addr) (fs : List (Str × V)) (v : V), x = .ref a ∧ H1 a = some (ExO C a (some dd)) ∧ XfC K C ∧ PySem.W.findIn K (.ref C) n = some none ∧ H1 dd = some (.xd fs) ∧ fs.lookup n = some v ∧ Q v H1
theorem pe_fld {X : Cx} {e : Expr} {te : TE} {pos : Pos} {n : Str} (he : PE X e te) (hb : attributeBase e n X.env (eval e X.env) = eval e X.env := by rfl) : PE X (.Attribute e n pos) (tFld X.K n te) := by
  refine ⟨fun pins s σ H Q I h => ?_⟩
  refine attr_of hb (thn (he.run pins s σ H _ I h) fun u s1 hh => ?_)
  obtain ⟨x, H1, I1, rx, a, C, dd, fs, v, ex, ea, TX, hno, ed, l, q⟩ := hh
  subst ex
  obtain rfl : u = Value.ref a := rx
  obtain ⟨⟨oe, vs, g, hz, hv⟩, _, _⟩ := I1.hok a _ ea
  have hx : ObjOk X.prog X.w H1 s1.heap dd (.xd fs) := I1.hok dd _ ed
  obtain ⟨mA, hns, hr⟩ := hx
  obtain ⟨od, ho, hl⟩ := lookIn_ns hns
  obtain ⟨u, hu, ru⟩ := RelO.some_of (v := v) (o := mA n) (by rw [← l]; exact hr n)
  have J : PySem.W.InstAt s1.heap a oe C (some od) := ⟨g, hz.1, by unfold PySem.W.notCls; rw [hv] <;> rfl, by rw [hz.2]; exact ho⟩
  exact HandSPX.exc_get I1.kIn J TX.ga TX.gg TX.exC (PySem.W.findObj_own TX.hdC hno rfl (by rw [hl, hu])) (handed_of ru) ⟨v, H1, I1.tok _, ru, q⟩
theorem ed_fld {env : Env'} {te : TE} {C : Addr} {fs : List (Str × D)} {n : Str} {d : D} (h : ED W te env (.exc C fs)) (hX : XfC K C) (hno : PySem.W.findIn K (.ref C) n = some none) (hl : fs.lookup n = some d) : ED W (tFld K n te) env d := fun c G0 H0 σ G H A Q q =>
  h c G0 H0 σ G H A _ fun v G1 H1 s1 g1 j1 r1 => by
    cases r1 with
    | exc0 h => cases hl
    | exc1 h h' rf =>
      obtain ⟨v, e1, r2⟩ := rf.lookup hl
      exact ⟨_, _, _, _, v, rfl, g1.same _ _ h, hX, hno, g1.same _ _ h', e1, q v G1 H1 s1 g1 j1 r2⟩
end
end Fx

set_option Elab.async false
set_option linter.all false
set_option maxRecDepth 100000
set_option maxHeartbeats 4000000
/-! Tuples turned about, dicts that change, texts, repr. -/
namespace Fx
open PySem PySem.Spec PyProof.Rows L2 LamX
/-! ### t[::-1] -/
section
variable {prog : Program} {w : World} {A : Around} {E : Value → Shared → Prop} {s : Shared}
theorem rev_pick (xs : Array Value) : ((List.range xs.size).filterMap fun (k : Nat) => xs[(((xs.size : Int) - 1) + (k : Int) * (-1)).toNat]?).toArray = xs.toList.reverse.toArray := by
  have h := PySem.W.krv_all xs
  have e : (List.range xs.size).filterMap (fun (k : Nat) => xs[(((xs.size : Int) - 1) + (k : Int) * (-1)).toNat]?) = ((List.range xs.size).map fun k => xs.size - 1 - k).filterMap (xs[·]?) := by
    rw [List.filterMap_map]
    have cong : ∀ l : List Nat, (∀ k ∈ l, k < xs.size) → l.filterMap (fun (k : Nat) => xs[(((xs.size : Int) - 1) + (k : Int) * (-1)).toNat]?) = l.filterMap ((xs[·]?) ∘ fun k => xs.size - 1 - k) := by
      intro l
      induction l with
      | nil => intro _; rfl
      | cons k r ih =>
        intro hl
        have hk := hl k List.mem_cons_self
        have e1 : (((xs.size : Int) - 1) + (k : Int) * (-1)).toNat = xs.size - 1 - k := by omega
        rw [List.filterMap_cons, List.filterMap_cons, ih fun k' hk' => hl k' (List.mem_cons_of_mem _ hk'), e1]
        rfl
    exact cong _ fun k hk => List.mem_range.mp hk
  rw [e, PySem.W.krv_range, List.filterMap_reverse, h]
theorem getItem_rev {t sl : Addr} {items : Array Value} {vs : Value} {Q : Value → Shared → Prop} (ht : IsTup s.heap t items) (hs : s.heap.IsSliceOf sl .none .none vs) (ps : IsPart vs (some (-1)))
    (h : Q (.ref s.heap.objs.size) { s with heap := s.heap.push { cls := .type "tuple", data := .seq items.toList.reverse.toArray } }) (hsz : items.size ≤ sizeLine) : wpAny (model prog w) A (getItem (.ref t) (.ref sl)) Q E s := by
  have htake : sizeOk (.seq items.toList.reverse.toArray) := by
    show items.toList.reverse.toArray.size ≤ sizeLine
    rw [List.size_toArray, List.length_reverse, Array.length_toList]
    exact hsz
  obtain ⟨os, hos, hcs, hds⟩ := id hs
  have hTs : s.TypeIs (.ref sl) "slice" := ⟨os, hos, hcs⟩
  unfold getItem
  try with_reducible refine wpAny_holding ?_
  first | refine wpAny_bind (wpAny_pure ?_) | skip
  refine wpAny_bind (wpAny_sequenceKey ht.typeIs (by decide) ?_)
  refine wpAny_bind (wpAny_callSpecial?_slot (name := Str.ofString "__getitem__") ht.typeIs PyProof.Rows.slot_tuple_getitem
    (wpAny_call_entry PyProof.Rows.slot_tuple_getitem ht.typeIs entry_tuple_getitem ?_ (args_tuple_getitem _ _)))
  show wpAny _ _ (Builtin.Tuple.tupleItemsOf (.ref t) >>= _) _ _ s
  refine wpAny_bind (tupleItemsOf_ ht ?_)
  refine wpAny_bind (wpAny_typeOf hTs ?_)
  rw [if_pos (by decide)]
  have happ : ∀ {Q' : Int × Int × Nat → Shared → Prop} {E' : Value → Shared → Prop} {A' : Around}, Q' ((items.size : Int) - 1, -1, items.size) s → wpAny (model prog w) A' (Builtin.Slice.sliceApplied (.ref sl) (pure (items.size : Int))) Q' E' s := by
    intro Q' E' A' hq
    unfold Builtin.Slice.sliceApplied Builtin.Slice.sliceFields
    refine wpAny_bind (wpAny_bind (wpAny_field hos hds (x := .none) rfl (wpAny_bind (wpAny_field hos hds (x := .none) rfl (wpAny_bind (wpAny_field hos hds (x := vs) rfl (wpAny_pure ?_)))))))
    refine wpAny_bind (HT.slicePart_ ps ?_)
    show wpAny _ _ (if ((-1 : Int) == 0) = true then _ else _) _ _ s
    rw [if_neg (by decide)]
    refine wpAny_bind (HT.slicePart_ .none (wpAny_bind (HT.slicePart_ .none (wpAny_bind (wpAny_pure ?_)))))
    show wpAny _ _ (pure ((items.size : Int) - 1, (-1 : Int), Builtin.Slice.slicePlaces ((items.size : Int) - 1) (-1) (-1))) _ _ s
    have e : Builtin.Slice.slicePlaces ((items.size : Int) - 1) (-1) (-1) = items.size := by
      unfold Builtin.Slice.slicePlaces
      have h1 : ¬ ((-1 : Int) > 0) := by omega
      simp only [h1, if_false]
      rw [show (- -1 : Int) = 1 by decide, Int.ediv_one]
      split <;> omega
    rw [e]
    exact wpAny_pure hq
  refine wpAny_bind (happ ?_)
  show wpAny _ _ (if ((items.size : Int) - 1 == 0 && (-1 : Int) == 1 && items.size == items.size) = true then _ else _) _ _ s
  rw [show ((items.size : Int) - 1 == 0 && (-1 : Int) == 1 && items.size == items.size) = false by simp, if_neg Bool.false_ne_true, rev_pick]
  first
    | exact wpAny_bind (m := Builtin.Tuple.tupleExact _) (wpAny_newObj_type (wpAny_pure ⟨_, rfl, wpAny_pure h⟩) htake)
    | exact wpAny_bind (m := Builtin.Tuple.tupleExact _) (wpAny_newObj_type (wpAny_bind (wpAny_pure (wpAny_pure ⟨_, rfl, wpAny_pure h⟩))) htake)
end
def tRevT (K : PySem.W.Frag) (te : TE) : TE := fun σ H Q => te σ H fun x H1 => ∃ a xs, x = .ref a ∧ SqT K H1 a xs ∧ ∀ p, H1 p = none → Q (.ref p) (upd H1 p (.tup xs.reverse))
theorem pe_revT {X : Cx} {e : Expr} {te : TE} {k : Nat} {p1 p2 p3 pos : Pos} (he : PE X e te) : PE X (.Subscript e (.Slice none none (some (.UnaryOp .USub (.Constant (.int 1) k p1) p2)) p3) pos) (tRevT X.K te) := by
  refine ⟨fun pins s σ H Q I h => ?_⟩
  refine Subscript_ (thn (he.run pins s σ H _ I h) fun v s1 ⟨x, H1, I1, r1, q1⟩ => ?_)
  obtain ⟨a, xs, ex, hx, q⟩ := q1
  subst ex
  cases r1
  have hst : PO X (some (.UnaryOp .USub (.Constant (.int 1) k p1) p2)) (tPart (tUn (rU fun i => .int (-i)) (tC (.int 1)))) := po_some (pe_un un_neg pe_int)
  refine wpAny_Slice (thn (po_none.run pins s1 σ H1 (fun o H2 => o = none ∧ H2 = H1) I1 ⟨rfl, rfl⟩) fun vl s2 ⟨l, H2, I2, pl, el, e2⟩ => ?_)
  subst el e2
  refine thn (po_none.run pins s2 σ H2 (fun o H3 => o = none ∧ H3 = H2) I2 ⟨rfl, rfl⟩) fun vu s3 ⟨u, H3, I3, pu, eu, e3⟩ => ?_
  subst eu e3
  refine thn (hst.run pins s3 σ H3 (fun o H4 => o = some (-1) ∧ H4 = H3) I3 ⟨1, rfl, -1, rfl, rfl, rfl⟩) fun vs s4 ⟨o, H4, I4, ps, eo, e4⟩ => ?_
  subst eo e4
  have I5 : Inv X pins σ H4 { s4 with heap := s4.heap.push { cls := .type "slice", data := .fields #[vl, vu, vs] } } := I4.kept (t' := s4.toks) fun b ob q => Heap.get?_push_of_some _ q
  obtain ⟨its, r, ht, hz⟩ := I5.tuple hx
  have hlen := r.length
  cases pl
  cases pu
  show wpAny (model X.prog X.w) X.A (subscriptTail e (.Slice none none (some (.UnaryOp .USub (.Constant (.int 1) k p1) p2)) p3) (.ref a) (.ref s4.heap.objs.size)) (EP X pins σ Q) X.xe { s4 with heap := s4.heap.push { cls := .type "slice", data := .fields #[.none, .none, vs] } }
  refine tail_any (ops := [.ref a, .ref s4.heap.objs.size]) ht.typeIs (PyProof.Rows.slot_tuple_getitem.lookup) ?_ (by with_unfolding_all rfl)
  refine getItem_rev ht (Heap.IsSliceOf.new _ _ _ vs) ps ?_ (by rw [List.size_toArray, ← hlen]; exact hz)
  refine ⟨.ref _, _, I5.laid (t' := s4.toks) (o := .tup xs.reverse) (fun b ob q => Heap.get?_push_of_some _ q) (Nat.le_refl _) ?_, rfl, q _ (I5.hok.fresh (Nat.le_refl _))⟩
  refine ⟨by rw [List.length_reverse]; exact hz, its.reverse, r.reverse, ?_⟩
  have := IsTup.new (h := s4.heap.push { cls := .type "slice", data := .fields #[.none, .none, vs] }) its.reverse.toArray
  exact this

section
variable {T : List (Addr × Str)} {W : Wld T} {G H G1 H1 G2 H2 H0 : Hp} {G0 : Hp × Hp} {c c' k : Nat} {K : PySem.W.Frag}
theorem ed_revT {te : TE} {env : Env'} {ds : List D} (h : ED W te env (.tup ds)) : ED W (tRevT K te) env (.tup ds.reverse) := fun c G0 H0 σ G H A Q q =>
  h c G0 H0 σ G H A _ fun v G1 H1 s1 g1 j1 r1 => by
    cases r1 with
    | tup h1 l1 => exact ⟨_, _, rfl, sqT_of g1 h1, fun p hp => q (.ref p) _ _ (s1.trans (stp_new g1 hp)) (gok_new g1 j1 hp (noTb_tup _)) (J_new j1 hp) (.tup upd_same (l1.rev.mono (same_new (g1.none hp) _)))⟩
theorem ed_revL {te : TE} {env : Env'} {ds : List D} (h : ED W te env (.lst ds)) : ED W (tRevL K te) env (.lst ds.reverse) := fun c G0 H0 σ G H A Q q =>
  h c G0 H0 σ G H A _ fun v G1 H1 s1 g1 j1 r1 => by
    cases r1 with
    | lst h1 l1 => exact ⟨_, _, rfl, sqL_of g1 h1, fun p hp => q (.ref p) _ _ (s1.trans (stp_new g1 hp)) (gok_new g1 j1 hp (noTb_lst _)) (J_new j1 hp) (.lst upd_same (l1.rev.mono (same_new (g1.none hp) _)))⟩
theorem rd_ltT {ns ms : List Int} : RD2 W (rLtT K) (dI ns) (dI ms) (.bl (HT.lexLt ns ms)) := fun c G H v1 v2 g j r1 r2 Q q => by
  cases r1 with
  | tup h1 l1 =>
    cases r2 with
    | tup h2 l2 =>
      rw [RpL.ints l1] at h1
      rw [RpL.ints l2] at h2
      exact ⟨_, _, _, _, rfl, rfl, sqT_of g h1, sqT_of g h2, q.here g j (.bl _)⟩
/-! ### texts -/
theorem rd_catS {a b : Str} (h : a.length + b.length ≤ 100000) : RD2 W (fun x y H Q => ∃ i j, x = .str i ∧ y = .str j ∧ i.length + j.length ≤ sizeLine ∧ Q (.str (i ++ j)) H) (.str a) (.str b) (.str (a ++ b)) := fun c G H v1 v2 g j r1 r2 Q q => by
  cases r1
  cases r2
  exact ⟨a, b, rfl, rfl, Nat.le_trans h (by decide), q.here g j (.str _)⟩
theorem ed_slS {te : TE} {tl th : TO} {env : Env'} {z : Str} {lo hi : Option Int} (h : ED W te env (.str z)) (hl : EO W tl env lo) (hh : EO W th env hi) (hz : z.length ≤ 100000) : ED W (tSl rSlS te tl th) env (.str (cutS z lo hi)) := fun c G0 H0 σ G H A Q q =>
  h c G0 H0 σ G H A _ fun v G1 H1 s1 g1 j1 r1 => hl c G0 H0 σ G1 H1 (A.step s1 g1 j1) _ fun G2 H2 s2 g2 j2 => hh c G0 H0 σ G2 H2 ((A.step s1 g1 j1).step s2 g2 j2) _ fun G3 H3 s3 g3 j3 => by
    cases r1
    exact ⟨z, rfl, Nat.le_trans hz (by decide), q _ G3 H3 ((s1.trans s2).trans s3) g3 j3 (.str _)⟩
theorem rdl_strI {i : Int} (h : i.natAbs.log2 < 1920) : RDL W (fun xs H Q => ∃ i, xs = [.int i] ∧ i.natAbs.log2 < 1920 ∧ Q (.str (toString i)) H) [.int i] (.str (toString i)) := fun c G H vs g j r Q q => by
  cases r with
  | cons r1 r2 =>
    cases r2
    cases r1
    exact ⟨i, rfl, h, q.here g j (.str _)⟩
/-! ### dicts that change -/
def putD (kvs : List (Key × D)) (k : Key) (v : D) : List (Key × D) := if (kvs.any fun kv => decide (kv.1 = k)) then kvs.map (fun kv => if kv.1 = k then (kv.1, v) else kv) else kvs ++ [(k, v)]
theorem putD_len (kvs : List (Key × D)) (k : Key) (v : D) : (putD kvs k v).length ≤ kvs.length + 1 := by
  unfold putD
  split
  · rw [List.length_map]; omega
  · rw [List.length_append]; exact Nat.le_refl _
theorem RpK.any {G : Hp} {k : Key} : ∀ {vs : List (Key × V)} {ds : List (Key × D)}, RpK G vs ds → (vs.any fun kv => decide (kv.1 = k)) = ds.any fun kv => decide (kv.1 = k)
  | _, _, .nil => rfl
  | _, _, .cons _ r => by rw [List.any_cons, List.any_cons, RpK.any r]
theorem RpK.repl {G : Hp} {k : Key} {v : V} {d : D} (h : Rp G v d) : ∀ {vs : List (Key × V)} {ds : List (Key × D)}, RpK G vs ds → RpK G (vs.map fun kv => if kv.1 = k then (kv.1, v) else kv) (ds.map fun kv => if kv.1 = k then (kv.1, d) else kv)
  | _, _, .nil => .nil
  | _, _, .cons (k := k') q r => by
    rw [List.map_cons, List.map_cons]
    by_cases e : k' = k
    · rw [if_pos e, if_pos e]
      exact .cons h (RpK.repl h r)
    · rw [if_neg e, if_neg e]
      exact .cons q (RpK.repl h r)
theorem RpK.put {G : Hp} {k : Key} {v : V} {d : D} (h : Rp G v d) {vs : List (Key × V)} {ds : List (Key × D)} (r : RpK G vs ds) : RpK G (putK vs k v) (putD ds k d) := by
  unfold putK putD
  rw [r.any]
  split
  · exact r.repl h
  · exact r.app (.cons h .nil)
theorem RpK.vals {G : Hp} : ∀ {vs : List (Key × V)} {ds : List (Key × D)}, RpK G vs ds → RpL G (vs.map (·.2)) (ds.map (·.2))
  | _, _, .nil => .nil
  | _, _, .cons h r => .cons h (RpK.vals r)
theorem RpK.get {G : Hp} {k : Key} {z : V} {d : D} (hz : Rp G z d) : ∀ {vs : List (Key × V)} {ds : List (Key × D)}, RpK G vs ds → Rp G ((valV vs k).getD z) ((lkD ds k).getD d)
  | _, _, .nil => hz
  | _, _, .cons (k := k') (v := v) (vs := vs) (d := d') (ds := ds) h r => by
    by_cases ek : k' = k
    · have : lkD ((k', d') :: ds) k = some d' := by simp [lkD, List.find?_cons, ek]
      rw [valV_pos ek, this]
      exact h
    · have : lkD ((k', d') :: ds) k = lkD ds k := by simp [lkD, List.find?_cons, ek]
      rw [valV_neg ek, this]
      exact RpK.get hz r
/-- x = {} -/
theorem tr_newd {u : TS} {env : Env'} {po : Po} {i : Nat} (hi : i < env.length) (k : Tr W u (env.set i (.md [])) c po) : Tr W (tSeq (tAsg tDNewK (gName i)) u) env c po := fun G0 H0 σ G H A E F => fun p hp => k _ _ _ _ _ (A.setMd i hp hi .nil) E F
/-- x[k] = e -/
theorem dput_core {ty tv : TE} {env : Env'} {i : Nat} {kvs : List (Key × D)} {ky : Key} {d : D} (he : env[i]? = some (.md kvs)) (hz : kvs.length < 100000) (hv : ED W tv env d) (hk : ED W ty env (kD ky)) {σ : L2.St} (A : At W G0 H0 c G H σ env) {Q : Hp → Prop}
    (q : ∀ G2 H2, At W G0 H0 c G2 H2 σ (env.set i (.md (putD kvs ky d))) → Q H2) (D' : Ends) (hD : ∀ H2, Q H2 → D'.nx σ H2) : sDPut (tVar i) ty tv D' σ H := by
  refine hv c _ _ _ _ _ A _ fun v G1 H1 s1 g1 j1 r1 => ?_
  have A1 := A.step s1 g1 j1
  obtain ⟨l, xs, e1, hl, rr, m, gl⟩ := ev_md A1 he
  refine ⟨_, e1, ?_⟩
  refine hk c _ _ _ _ _ A1 _ fun y G2 H2 s2 g2 j2 r2 => ?_
  have ey : y = kV ky := by
    cases ky with
    | inl n => cases r2; rfl
    | inr z => cases r2; rfl
  subst ey
  have hl2 := s2.hh l _ hl m (noTb_dK _)
  refine ⟨l, _, rfl, DPut.k hl2 (Nat.lt_of_lt_of_le (by rw [rr.len]; exact hz) (by decide)), hD _ (q G2 _ ?_)⟩
  exact (A1.step s2 g2 j2).chD he e1 ((rr.mono s2.gg).put (r1.mono s2.gg))
theorem tr_dput {ty tv : TE} {u : TS} {env : Env'} {po : Po} {i : Nat} {kvs : List (Key × D)} {ky : Key} {d : D} (he : env[i]? = some (.md kvs)) (hz : kvs.length < 100000) (hv : ED W tv env d) (hk : ED W ty env (kD ky)) (k : Tr W u (env.set i (.md (putD kvs ky d))) c po) : Tr W (tSeq (sDPut (tVar i) ty tv) u) env c po := fun G0 H0 σ G H A E F =>
  dput_core he hz hv hk A (Q := fun H2 => u E σ H2) (fun G2 H2 A2 => k _ _ _ _ _ A2 E F) _ fun _ h => h
theorem tr_dput1 {ty tv : TE} {env : Env'} {po : Po} {i : Nat} {kvs : List (Key × D)} {ky : Key} {d : D} (he : env[i]? = some (.md kvs)) (hz : kvs.length < 100000) (hv : ED W tv env d) (hk : ED W ty env (kD ky)) (k : po.nx (env.set i (.md (putD kvs ky d))) c) : Tr W (sDPut (tVar i) ty tv) env c po := fun G0 H0 σ G H A E F =>
  dput_core he hz hv hk A (Q := fun H2 => E.nx σ H2) (fun G2 H2 A2 => F.nx _ _ _ _ _ A2 k) _ fun _ h => h
/-- x.get(k, e) -/
theorem ed_mdget {ty tx : TE} {env : Env'} {i : Nat} {kvs : List (Key × D)} {ky : Key} {d : D} (he : env[i]? = some (.md kvs)) (hk : ED W ty env (kD ky)) (hx : ED W tx env d) : ED W (tDGet2 (tVar i) ty tx) env ((lkD kvs ky).getD d) := fun c G0 H0 σ G H A Q q => by
  obtain ⟨l, xs, e1, hl, rr, m, gl⟩ := ev_md A he
  refine ⟨_, e1, l, rfl, .inl ⟨xs, .inl hl⟩, ?_⟩
  refine hk c _ _ _ _ _ A _ fun y G1 H1 s1 g1 j1 r1 => ?_
  have ey : y = kV ky := by
    cases ky with
    | inl n => cases r1; rfl
    | inr z => cases r1; rfl
  subst ey
  refine hx c _ _ _ _ _ (A.step s1 g1 j1) _ fun z G2 H2 s2 g2 j2 r2 => ?_
  have hl2 := (s1.trans s2).hh l _ hl m (noTb_dK _)
  exact ⟨_, DGet.k hl2, q _ G2 H2 (s1.trans s2) g2 j2 (RpK.get r2 (rr.mono (s1.trans s2).gg))⟩
/-- x[k] -/
theorem ed_dix {ty : TE} {env : Env'} {i : Nat} {kvs : List (Key × D)} {ky : Key} {d : D} (he : env[i]? = some (.md kvs)) (hk : ED W ty env (kD ky)) (hd : lkD kvs ky = some d) : ED W (tDGet (tVar i) ty) env d := fun c G0 H0 σ G H A Q q => by
  obtain ⟨l, xs, e1, hl, rr, m, gl⟩ := ev_md A he
  refine ⟨_, e1, ?_⟩
  refine hk c _ _ _ _ _ A _ fun y G1 H1 s1 g1 j1 r1 => ?_
  have ey : y = kV ky := by
    cases ky with
    | inl n => cases r1; rfl
    | inr z => cases r1; rfl
  subst ey
  have hl2 := s1.hh l _ hl m (noTb_dK _)
  obtain ⟨v, e2, rv⟩ := (rr.mono s1.gg).lk hd
  refine ⟨l, v, rfl, ?_, q _ G1 H1 s1 g1 j1 rv⟩
  rw [← e2]
  exact DGet.k hl2
end
/-! ### list(d.values()) -/
def VwO (p a : Addr) : HO := .ext fun h => h.IsValuesView p a
def rVals : V → List V → Hp → VK → Prop := fun x vs H Q => ∃ a kvs, x = .ref a ∧ vs = [] ∧ H a = some (.dK kvs) ∧ ∀ p, H p = none → Q (.ref p) (upd H p (VwO p a))
theorem mt_vals {X : Cx} : MtR X "dict.values" rVals := by
  intro pins s σ H x xs v us Q I rx rv h
  obtain ⟨a, kvs, rfl, rfl, ha, q⟩ := h
  cases rv
  obtain rfl : v = Value.ref a := rx
  obtain ⟨_, hsys, vs, rel, dof⟩ := dk_of I.hok ha
  have dof' := dof
  obtain ⟨ob, es, ep, ho, ex, hdat, hko⟩ := dof'
  refine call_meetsIn F.slot_dict_values ⟨ob, ho, ex.1⟩ F.entry_dict_values (F.args_dict_values_1 _) (meets_dict_values (mixKind X.prog X.w) a hsys) ⟨⟨vs, dof⟩, ?_⟩
  have hp := Heap.get?_push_size s.heap (o := { cls := .type "dict_values", data := .fields #[.ref a] }) rfl
  refine ⟨.ref s.heap.objs.size, upd H s.heap.objs.size (VwO s.heap.objs.size a), I.laid (t' := s.toks) (fun b ob q => Heap.get?_push_of_some _ q) (Nat.le_refl _) ?_, rfl, q _ (I.hok.fresh (Nat.le_refl _))⟩
  exact ⟨⟨_, hp, rfl, rfl⟩, ⟨_, hp⟩, fun h1 h2 ⟨o, e1, e2⟩ k => ⟨o, k o e1, e2⟩⟩
def rListV : List V → Hp → VK → Prop := fun xs H Q => ∃ p a kvs, xs = [.ref p] ∧ H p = some (VwO p a) ∧ H a = some (.dK kvs) ∧ ∀ l, H l = none → Q (.ref l) (upd H l (.lst (kvs.map (·.2))))
theorem cr_listV {X : Cx} (hcalm : X.calm = true) : CallR X (.type "list") rListV := by
  intro pins s σ H xs us Q I r q
  obtain ⟨p, a, kvs, ex, hp, hd, q⟩ := q
  subst ex
  obtain ⟨u, eu, rx⟩ := vals1 r
  subst eu
  cases rx
  obtain ⟨z, lo, vs, rel, dd⟩ := dk_of I.hok hd
  obtain ⟨ep, hat⟩ := dd.dictAt
  obtain ⟨hv, _, _⟩ := I.hok p _ hp
  refine PySem.W.kdl_call (PySem.W.kdl_values (knd := mixKind X.prog X.w) (r := p) (d := a) (kvs := vs) (ep := ep)) (I.ok.hd hcalm) ⟨hv, hat⟩ (by rw [← rel.length]; exact z) fun h' tk acc c' hk hD hacc => ?_
  have ev : acc.toList = vs.map (·.2) := PySem.W.kdl_vals_eq acc.toList (by rw [Array.length_toList]; exact hacc.1) fun j v e => hacc.2 j v (by rw [← Array.getElem?_toList]; exact e)
  have hvv : Vals (kvs.map (·.2)) acc.toList := by
    rw [ev]
    have go : ∀ {kvs : List (Key × V)} {vs : List (Key × Value)}, KV kvs vs → Vals (kvs.map (·.2)) (vs.map (·.2)) := by
      intro kvs vs r
      induction r with
      | nil => exact .nil
      | cons h _ ih => exact .cons h.2 ih
    exact go rel
  refine ⟨.ref s.heap.objs.size, upd H s.heap.objs.size (.lst (kvs.map (·.2))), I.laid (t' := tk) hk (Nat.le_refl _)
    (show ObjOk X.prog X.w _ _ _ (.lst (kvs.map (·.2))) from ⟨by rw [List.length_map]; exact z, acc.toList, c', hvv, by rw [Array.toArray_toList]; exact hD⟩), rfl, q _ (I.hok.fresh (Nat.le_refl _))⟩
theorem ed_listV {T : List (Addr × Str)} {W : Wld T} {K : PySem.W.Frag} {env : Env'} {i : Nat} {kvs : List (Key × D)} (he : env[i]? = some (.md kvs)) : ED W (tCB rListV (tCons (tBM0 K "dict" rVals (tVar i)) tNil)) env (.lst (kvs.map (·.2))) := fun c G0 H0 σ G H A Q q => by
  obtain ⟨l, xs, e1, hl, rr, m, gl⟩ := ev_md A he
  refine ⟨_, e1, ?_, l, xs, rfl, rfl, hl, fun p hp => ?_⟩
  · exact .inr (.inr (.inl ⟨rfl, .inl ⟨xs, hl⟩⟩))
  have s1 : Stp W G H G (upd H p (VwO p l)) := stp_upd Stp.refl (nf_none hp) (noTb_ext _)
  have ne : l ≠ p := ne_of_none hl hp
  refine ⟨p, l, xs, rfl, upd_same, by rw [upd_ne ne]; exact hl, fun q' hq => ?_⟩
  have A1 := A.step s1 (gok_upd A.gok (A.gok.none hp)) (J_new (o := VwO p l) A.j hp)
  exact q (.ref q') _ _ (s1.trans (stp_new A1.gok hq)) (gok_new A1.gok A1.j hq (noTb_lst _)) (J_new A1.j hq) (.lst upd_same (rr.vals.mono (same_new (A1.gok.none hq) _)))
/-! ### repr -/
def rRepr (K : PySem.W.Frag) : List V → Hp → VK → Prop := fun xs H Q => ∃ (a : Addr) (d : PyData), xs = [.ref a] ∧ Dp K H (.ref a) d ∧ d.showable = true ∧ d.hasDict = false ∧ d.depth ≤ 64 ∧ d.shown.length ≤ sizeLine ∧ Q (.str d.shown) H
theorem cr_repr {X : Cx} (hg : X.A.guards = some []) (hu : X.A.units + 65 < cLine) : CallR X (.builtin "repr") (rRepr X.K) := by
  intro pins s σ H xs us Q I r h
  obtain ⟨a, d, rfl, hd, h1, h2, h3, h4, q⟩ := h
  obtain ⟨u, rfl, ru⟩ := vals1 r
  obtain rfl : u = Value.ref a := ru
  obtain ⟨as, hr⟩ := Dp.reads I d _ _ hd rfl
  exact repr_of_reads' hr h1 (PyData.noDict_hsm h2) hg (by omega) (fun _ _ e => e) (fun h' u tk hk => ⟨.str d.shown, H, I.kept (t' := tk) hk, ⟨u, rfl⟩, q⟩) h4
theorem rdl_repr {T : List (Addr × Str)} {W : Wld T} {K : PySem.W.Frag} {d : D} {n : Nat} (hd : (∃ ds, d = .tup ds) ∨ ∃ ds, d = .lst ds) (ho : D.ok n d = true) (hn : n ≤ 64) (hs : d.py.showable = true) (hz : d.py.shown.length ≤ sizeLine) : RDL W (rRepr K) [d] (.str d.py.shown) := fun c G H vs g j r Q q => by
  cases r with
  | @cons v _ _ _ r1 r2 =>
    cases r2
    have hr : ∃ a, v = V.ref a := by
      rcases hd with ⟨ds, rfl⟩ | ⟨ds, rfl⟩
      · cases r1 with | tup h l => exact ⟨_, rfl⟩
      · cases r1 with | lst h l => exact ⟨_, rfl⟩
    obtain ⟨a, rfl⟩ := hr
    obtain ⟨hl, hdep⟩ := lay_of_ok ho
    exact ⟨a, d.py, rfl, Rp.dp g ho r1, hs, PyData.hasDict_of_canLay _ hl, Nat.le_trans hdep hn, hz, q.here g j (.str _)⟩
/-! ### rules with K told -/
section
variable {X : Cx} (K : PySem.W.Frag)
theorem kltT (hu : X.A.units + 64 < cLine) (h : X.K = K := by rfl) : OpR X (compareOp .Lt) (rLtT K) := by subst h; exact op_ltT (by omega)
theorem kpe_revT {e : Expr} {te : TE} {k : Nat} {p1 p2 p3 pos : Pos} (he : PE X e te) (h : X.K = K := by rfl) : PE X (.Subscript e (.Slice none none (some (.UnaryOp .USub (.Constant (.int 1) k p1) p2)) p3) pos) (tRevT K te) := by subst h; exact pe_revT he
theorem kpe_revL {e : Expr} {te : TE} {k : Nat} {p1 p2 p3 pos : Pos} (he : PE X e te) (h : X.K = K := by rfl) : PE X (.Subscript e (.Slice none none (some (.UnaryOp .USub (.Constant (.int 1) k p1) p2)) p3) pos) (tRevL K te) := by subst h; exact pe_revL he
theorem kisU (h : X.K = K := by rfl) : CallR X (.builtin "isinstance") (rIsU K) := by subst h; exact call_isU
theorem krepr (hg : X.A.guards = some []) (hu : X.A.units + 65 < cLine) (h : X.K = K := by rfl) : CallR X (.builtin "repr") (rRepr K) := by subst h; exact cr_repr hg hu
end
/-- the def that catches, called with a lambda without parameters -/
theorem pe_cau {X : Cx} {T : List (Addr × Str)} {TT : (XK → Hp → VK → Prop) → Hp → VK → Prop} {x a : Str} {st : Stmt} {cdv : Value} {Ng : List Str} {c P : Addr} {k : Nat} {params : Arguments} {body : Expr} {scope : Scope} {t : XK → TE} {p lpos pos : Pos}
    (F : Df X.K X.mg x st [a] cdv) (Sg : C8.scC Ng [a] (C8.fnScope st) = true) (hNg : Ng[0]? = some a) (hva : Vis (C8.fnScope st) a) (hG : ∀ g : Addr, GivesTo X Ng x (C8.fnScope st) g cdv (C8.fnBody st) a (X.env.qual ++ "<lambda>") TT) (hg : Gl X x)
    (TB : TabB X.base X.mg c P) (hcode : X.env.code = .ref c) (hmT : (P, X.env.qual ++ "<lambda>") ∈ T) (hu : ∀ p ∈ T, p.1 = P → p.2 = X.env.qual ++ "<lambda>") (hr : Room (k + 2) X.A) (L : LamS X.env.scope scope) (hdef : defaultsOf params X.env = ([], []))
    (hbind : ∀ (q : Str) (cl : List (Str × Addr)) (pm cv ctv : Value), bindArgs (PySem.W.kla_fn "<lambda>" q params body scope cl pm cv ctv) ⟨[], []⟩ = pure [])
    (hbody : ∀ (A : Around) (outer : List Env) (s : Shared) (H : Hp) (E : XK) (f c' : Addr), Room k (A.deeper (lamEnv X scope s.heap.objs.size f c')) → PE (lamCx X A outer s H E scope f c') body (t E))
    (hdb : (x == ("__debug__" : Str)) = false := by decide) (hd : (a == ("__debug__" : Str)) = false := by decide) (hcd : (a == ("__classdict__" : Str)) = false := by decide) :
    PE X (.Call (.Name x p) [.Lambda params body scope lpos] [] pos) (tLam T TT t) := by
  obtain ⟨f, oc, od, kV, doc, pm, an, ct, osl, lk, hcd', hm, kp, hb⟩ := F.ex
  exact pe_lamcall hg hm kp lk hcd' hb (C8.fnScope_by Sg) hNg hva (hG f) TB hcode hmT hu hr L hdef hbind hbody hdb hd hcd
end Fx

set_option Elab.async false
set_option linter.all false
set_option maxRecDepth 100000
set_option maxHeartbeats 4000000
/-! What the laws share: wide numbers, draws, picks. -/
namespace Fx
open PySem PySem.Spec PyProof.Rows L2 LamX C8
section
variable {T : List (Addr × Str)} {K : PySem.W.Frag}
theorem rd_mulW {W : Wld T} {i j : Int} (h : CMulW i j) : RD2 W (rI CMulW fun i j => .int (i * j)) (.int i) (.int j) (.int (i * j)) := rd_I h fun _ => .int _
theorem rd_divW {W : Wld T} {i j : Int} (h : CDivW i j) : RD2 W (rI CDivW fun i j => .int (i / j)) (.int i) (.int j) (.int (i / j)) := rd_I h fun _ => .int _
theorem rd_pow {W : Wld T} {i j : Int} (h : CPow i j) : RD2 W (rI CPow fun i j => .int (i ^ j.toNat)) (.int i) (.int j) (.int (i ^ j.toNat)) := rd_I h fun _ => .int _
theorem natAbs_lt {x : Int} {n : Nat} (h0 : 0 ≤ x) (h : x < (2 : Int) ^ n) : x.natAbs < 2 ^ n := by
  have : ((x.natAbs : Nat) : Int) < ((2 ^ n : Nat) : Int) := by
    rw [Int.natCast_pow]
    have : ((x.natAbs : Nat) : Int) = x := Int.natAbs_of_nonneg h0
    rw [this]
    exact h
  exact Int.ofNat_lt.mp this
/-- a mixed number; a draw below n; one of some -/
def fMix (S : Addr) : List D → (D → Prop) → Prop := fun ds P => ds = [.raw (.ref S)] ∧ ∀ x : Int, 0 ≤ x → P (.int x)
def fDraw (S : Addr) : List D → (D → Prop) → Prop := fun ds P => ∃ n : Int, ds = [.raw (.ref S), .int n] ∧ 0 < n ∧ n ≤ 1000000 ∧ ∀ x : Int, 0 ≤ x → x < n → P (.int x)
def fPick (S : Addr) : List D → (D → Prop) → Prop := fun ds P => ∃ es, ds = [.raw (.ref S), .lst es] ∧ 0 < es.length ∧ es.length ≤ 100000 ∧ ∀ e ∈ es, P e
def fFew (S : Addr) : List D → (D → Prop) → Prop := fun ds P => ∃ (es : List D) (n : Int), ds = [.raw (.ref S), .lst es, .int n] ∧ es.length ≤ 300 ∧ 0 < n ∧ n ≤ 1000000 ∧ ∀ l : List D, l.Sublist es → P (.lst l)
theorem sub_of : ∀ {l : List D} {os : List (Option D)}, os.length = l.length → (∀ (i : Nat) (x : D) (o : Option D), l[i]? = some x → os[i]? = some o → o = none ∨ o = some x) → (os.filterMap id).Sublist l
  | [], [], _, _ => .slnil
  | x :: l, o :: os, hl, h => by
    have ih := sub_of (l := l) (os := os) (by simpa using hl) fun i y p h1 h2 => h (i + 1) y p (by simpa using h1) (by simpa using h2)
    rcases h 0 x o rfl rfl with rfl | rfl
    · exact ih.cons _
    · exact ih.cons₂ _
  | [], _ :: _, hl, _ => by simp at hl
  | _ :: _, [], hl, _ => by simp at hl
/-- the law: whatever the script -/
def SpLaw (T : List (Addr × Str)) (K : PySem.W.Frag) : Sp := fun vs H Q _ => ∃ (a : Addr) (ns : List Int), vs = [.ref a] ∧ LamX.Tabs T H ∧ SqL K H a (ns.map V.int) ∧ ns.length ≤ 63 ∧ ∀ H', Q (.bl true) H'
theorem At.drawn {W : Wld T} {G0 : Hp × Hp} {H0 G H G2 H2 : Hp} {c : Nat} {σ : L2.St} {env : Env'} {S lw lc : Addr} {cells ws : List Int} (A : At W G0 H0 c G H σ env) (nm : ∀ (i : Nat) (s : Slot), env[i]? = some s → s.isM = false) (s : Stp W G H G2 H2) (g : GOk W G2 H2) (j : W.J 0 H2) (d : DrSt W.M S lw lc cells 0 H2 ws 0 0) (n1 : G2 S = none) (n2 : G2 lw = none) (n3 : G2 lc = none) : At (WDr W S lw lc cells) G0 H0 0 G2 H2 σ env := by
  have st := A.st.trans s
  refine ⟨⟨st.gg, fun a o h m n => st.hh a o h (fun z => m (.inl z)) n, st.fr, st.dom⟩, A.sb.trans s.gg, fun a o h => ?_, ⟨j, ws, 0, 0, d⟩, ⟨A.env.len, fun i d h => ?_, fun i s h hs => (by rw [nm i s h] at hs; cases hs), fun i _ s _ _ _ h _ hs => (by rw [nm i s h] at hs; cases hs)⟩⟩
  · obtain ⟨h1, h2, h3⟩ := g a o h
    refine ⟨h1, h2, fun m => ?_⟩
    rcases m with m | rfl | rfl | rfl
    · exact h3 m
    · rw [n1] at h; cases h
    · rw [n2] at h; cases h
    · rw [n3] at h; cases h
  · obtain ⟨v, e, r⟩ := A.env.dat i d h
    exact ⟨v, e, r.mono s.gg⟩
theorem rdl_lenS {a : Addr} {ns : List Int} {Pm : Prop} {S lw lc : Addr} {cells : List Int} : RDL (WDr (WS T K a ns Pm) S lw lc cells) (fun xs H Q => ∃ p ys, xs = [.ref p] ∧ (SqL K H p ys ∨ SqT K H p ys) ∧ Q (.int ys.length) H) [.raw (.ref a)] (.int (ns.length : Nat)) := fun c G H vs g j r Q q => by
  cases r with
  | cons r1 r2 =>
  cases r2
  cases r1
  refine ⟨a, _, rfl, .inl (ws_sq j.1), ?_⟩
  rw [List.length_map]
  exact q.here g j (.int _)
theorem etn_not {W : Wld T} {t : TT} {env : Env'} {c k : Nat} {P P' : Bool → Prop} (h : ETN W t env c k P) (hp : ∀ b, P b → P' (!b)) : ETN W (tNot t) env c k P' := fun G0 H0 σ G H A Q q =>
  h G0 H0 σ G H A _ fun b G1 H1 s1 g1 j1 p => q (!b) G1 H1 s1 g1 j1 (hp b p)
theorem en_true {W : Wld T} {te : TE} {env : Env'} {c k : Nat} (h : EN W te env c k (fun d => d = .bl true)) : ETN W (tB te) env c k (fun b => b = true) := etn_test (h.imp (Nat.le_refl _) fun d e => ⟨true, e, rfl⟩)
/-- x, y = e1, e2, at a block's end -/
theorem tr_par1 {W : Wld T} {c : Nat} {ta : TA} {env : Env'} {po : Po} {i j : Nat} {d1 d2 : D} (h : EA W ta env [d1, d2]) (k : po.nx ((env.set i (.dat d1)).set j (.dat d2)) c) : Tr W (tPar i j ta) env c po := fun G0 H0 σ G H A E F =>
  h c G0 H0 σ G H A _ fun vs G1 H1 s1 g1 j1 r1 => by
    cases r1 with
    | cons r1 r2 =>
      cases r2 with
      | cons r2 r3 =>
        cases r3
        exact ⟨_, _, rfl, F.nx _ _ _ _ _ (((A.step s1 g1 j1).setD i r1).setD j r2) k⟩
/-- draw(S, n) -/
theorem en_take {W : Wld T} {S lw lc : Addr} {cells : List Int} {E : XK} {env : Env'} {i c : Nat} {te : TE} {n : Int} (h : env[i]? = some (.dat (.raw (.ref S)))) (hn : ED (WDr W S lw lc cells) te env (.int n)) (n0 : 0 < n) (n1 : n ≤ 1000000) (hc : c + 1 ≤ CAP) :
    EN (WDr W S lw lc cells) (tCall (SpSx T 1 fDraw) [] E (tCons (tVar i) (tCons te tNil))) env c 1 (fun d => ∃ x : Int, d = .int x ∧ 0 ≤ x ∧ x < n) :=
  EN.lift (k := 0 + 1) (en_callX (n := 0) (f := fDraw) (ean_cons (ed_var h).n (ean_cons hn.n ean_nil)) (fun ds ⟨d1, ds1, e1, e2, d2, ds2, e3, e4, e5⟩ => ⟨n, by rw [e1, e2, e3, e4, e5], n0, n1, fun x x0 x1 => ⟨x, rfl, x0, x1⟩⟩) (by omega)) (by omega)
/-- pick(S, es) -/
theorem en_pickL {W : Wld T} {S lw lc : Addr} {cells : List Int} {E : XK} {env : Env'} {i c : Nat} {te : TE} {es : List D} (h : env[i]? = some (.dat (.raw (.ref S)))) (hn : ED (WDr W S lw lc cells) te env (.lst es)) (n0 : 0 < es.length) (n1 : es.length ≤ 100000) (hc : c + 1 ≤ CAP) :
    EN (WDr W S lw lc cells) (tCall (SpSx T 1 fPick) [] E (tCons (tVar i) (tCons te tNil))) env c 1 (fun d => d ∈ es) :=
  EN.lift (k := 0 + 1) (en_callX (n := 0) (f := fPick) (ean_cons (ed_var h).n (ean_cons hn.n ean_nil)) (fun ds ⟨d1, ds1, e1, e2, d2, ds2, e3, e4, e5⟩ => ⟨es, by rw [e1, e2, e3, e4, e5], n0, n1, fun x hx => hx⟩) (by omega)) (by omega)
end
end Fx

set_option Elab.async false
set_option linter.all false
set_option maxRecDepth 100000
set_option maxHeartbeats 4000000
/-! A def that is called where no repr is under way; fresh lists by displays. -/
namespace Fx
open PySem PySem.Spec PyProof.Rows L2 LamX C8
/-- a def of the module, run where no guard stands -/
structure RunG (P : Program) (w : World) (K : PySem.W.Frag) (mg : Str → Option Value) (base : Heap) (k : Nat) (x : Str) (ps : List Str) (sp : Sp) : Prop where
  ex : ∃ (f : Addr) (fd : FuncData), mg x = some (.ref f) ∧ Binds K fd ps [] ∧ ∀ (A : Around) (outer : List Env) (s : Shared) (H : Hp) (args : Args) (us : List Value) (vs : List V) (Q : VK) (E : XK), Room k A → A.guards = some [] → Env0 P w K mg base A outer s H →
    BindsTo s fd args (ps.zip us) → Vals vs us → vs.length = ps.length → sp vs H Q E → codeAny (model P w) A (.call (.ref f) args) (CR C8.CX0 outer P w H s Q E) s
theorem runG_of {P : Program} {w : World} {K : PySem.W.Frag} {mg : Str → Option Value} {base : Heap} {x : Str} {st : Stmt} {N ps : List Str} {k : Nat} {sp : Sp} {cdv : Value} (F : Df K mg x st ps cdv) (S : scC N ps (fnScope st) = true)
    (hbody : ∀ (a : Addr) (A : Around) (outer : List Env) (s : Shared) (H : Hp) (E : XK), Room k (A.deeper (envOfC x (fnScope st) s.heap.objs.size a cdv)) → (A.deeper (envOfC x (fnScope st) s.heap.objs.size a cdv)).guards = some [] →
      ∃ t, PSs (cxOf C8.CX0 P w K mg base N x (fnScope st) a cdv A outer s H E).nox (fnBody st) t ∧ ∀ vs Q, sp vs H Q E → t { nx := fun _ H' => Q .non H', rt := Q } (L2.start N vs) H) : RunG P w K mg base (k + 1) x ps sp := by
  obtain ⟨f, oc, od, kV, doc, pm, an, ct, osl, lk, hcd, hm, kp, hb⟩ := F.ex
  refine ⟨f, _, hm, hb, fun A outer s H args us vs Q E hr hg e0 hb' r hl hsp => run_ofS (N := N) lk hcd (fnScope_by S) hr e0 hb' r hl fun hr' => ?_⟩
  obtain ⟨t, ht, q⟩ := hbody f A outer s H E hr' hg
  exact ⟨t, ht.nox, q vs Q hsp⟩
section
variable {T : List (Addr × Str)} {W : Wld T} {c k : Nat}
theorem mn_lstD {ta : TA} {env : Env'} {ds : List D} (h : EA W ta env ds) (hz : ds.length ≤ 100000) : MN W (tLst ta) env c 0 (fun es => es = ds) := fun G0 H0 σ G H A Q q =>
  h c G0 H0 σ G H A _ fun vs G1 H1 s1 g1 j1 r1 => ⟨by rw [r1.len]; exact Nat.le_trans hz (by decide), fun p hp =>
    q p vs ds G1 _ (s1.trans (stp_upd Stp.refl (nf_none hp) (noTb_lst _))) (gok_upd g1 (g1.none hp)) (J_new j1 hp) upd_same (g1.none hp) (s1.dom p (nf_none hp)) (fun m => W.mtr j1 m (nf_none hp)) r1 rfl⟩
end
end Fx

set_option Elab.async false
set_option linter.all false
set_option maxRecDepth 100000
set_option maxHeartbeats 4000000
/-! The end of a law whose def runs where no guard stands; classes of errors; defs by keywords. -/
namespace Fx
open PySem PySem.Spec PyProof.Rows L2 LamX C8
/-- what the calculus sees at the law's call: the tables, and the script where the module does not know it -/
def seen (K : PySem.W.Frag) (ts : List Addr) (a : Addr) (o : Obj) (xs : List V) : Hp := fun b =>
  if b ∈ ts then some (.tbl #[]) else if b = a ∧ K.lookup a = none then some (.frz o (.lst xs)) else none
section
variable {K : PySem.W.Frag} {ts : List Addr} {a b : Addr} {o : Obj} {xs : List V} {u : HO}
theorem seen_t (h : b ∈ ts) : seen K ts a o xs b = some (.tbl #[]) := by unfold seen; exact if_pos h
theorem seen_a (h : a ∉ ts) (n : K.lookup a = none) : seen K ts a o xs a = some (.frz o (.lst xs)) := by unfold seen; rw [if_neg h, if_pos ⟨rfl, n⟩]
theorem seen_why (h : seen K ts a o xs b = some u) : (b ∈ ts ∧ u = .tbl #[]) ∨ (b ∉ ts ∧ b = a ∧ K.lookup a = none ∧ u = .frz o (.lst xs)) := by
  unfold seen at h
  by_cases h1 : b ∈ ts
  · rw [if_pos h1] at h
    exact .inl ⟨h1, (Option.some.inj h).symm⟩
  · rw [if_neg h1] at h
    by_cases h2 : b = a ∧ K.lookup a = none
    · rw [if_pos h2] at h
      exact .inr ⟨h1, h2.1, h2.2, (Option.some.inj h).symm⟩
    · rw [if_neg h2] at h
      cases h
end
/-- what stands at the law's call -/
structure Stands (K : PySem.W.Frag) (mg mb : Str → Option Value) (a : Addr) (vs : List Value) (ns : List Int) (cs : List (Addr × Addr)) (s : Shared) : Prop where
  known : K.In s.heap
  main : s.heap.Ns mainGlobals mg
  bns : s.heap.Ns builtinsNs mb
  boot : ∀ x : Str, x ≠ "__name__" → mb x = bootBuiltins x
  free : s.heap.NoLimit
  still : s.gens = #[]
  bare : ∀ p ∈ cs, s.heap.get? p.2 = some { cls := .none, data := .fields #[] }
  apart : ∀ p ∈ cs, K.lookup p.2 = none
  code : ∀ p ∈ cs, PySem.W.CodeHd s.heap p.1 p.2
  mod : ∃ (m : Addr) (om : Obj), mg "__builtins__" = some (.ref m) ∧ m ≠ builtinsNs ∧ s.heap.get? m = some om ∧ om.cls = .type "module" ∧ om.dict = some builtinsNs ∧ om.data = .plain
  script : s.heap.get? a = some { cls := .type "list", data := .seq vs.toArray }
  whole : IntsAre vs ns
  short : ns.length ≤ sizeLine
section
variable {P : Program} {w : World} {K : PySem.W.Frag} {mg mb : Str → Option Value} {a : Addr} {vs : List Value} {ns : List Int} {cs : List (Addr × Addr)} {s : Shared}
/-- the heap seen -/
abbrev hpS (K : PySem.W.Frag) (a : Addr) (vs : List Value) (ns : List Int) (cs : List (Addr × Addr)) : Hp := seen K (cs.map Prod.snd) a { cls := .type "list", data := .seq vs.toArray } (ns.map V.int)
namespace Stands
variable (S : Stands K mg mb a vs ns cs s)
include S
theorem tab {b : Addr} (h : b ∈ cs.map Prod.snd) : s.heap.get? b = some { cls := .none, data := .fields #[] } := by
  obtain ⟨p, hp, rfl⟩ := List.mem_map.mp h
  exact S.bare p hp
theorem ne_tab : a ∉ cs.map Prod.snd := fun h => by
  have e := (S.tab h).symm.trans S.script
  cases Option.some.inj e
/-- an object of another kind is not seen -/
theorem hid {b : Addr} {o : Obj} (e : s.heap.get? b = some o) (h1 : ∀ its n, o.data ≠ .seq its n) (h2 : o.data ≠ .fields #[]) : hpS K a vs ns cs b = none := by
  cases q : hpS K a vs ns cs b with
  | none => rfl
  | some u =>
    rcases seen_why q with ⟨hb, _⟩ | ⟨_, rfl, _⟩
    · rw [S.tab hb] at e
      exact absurd (congrArg Obj.data (Option.some.inj e)).symm h2
    · rw [S.script] at e
      exact absurd (congrArg Obj.data (Option.some.inj e)).symm (h1 _ _)
theorem below {b : Addr} {o : Obj} (e : s.heap.get? b = some o) (h1 : ∀ its n, o.data ≠ .seq its n) (h2 : o.data ≠ .fields #[]) : (hidT s.heap (hpS K a vs ns cs)).get? b = some o := hidT_get e (S.hid e h1 h2)
theorem belowNs {b : Addr} {m : Str → Option Value} (h : s.heap.Ns b m) : (hidT s.heap (hpS K a vs ns cs)).Ns b m := by
  obtain ⟨o, es, ep, e, hd, r⟩ := h
  exact ⟨o, es, ep, S.below e (fun its n z => by rw [hd] at z; cases z) (fun z => by rw [hd] at z; cases z), hd, r⟩
theorem hok : HOk P w (hpS K a vs ns cs) s.heap := fun b u q => by
  rcases seen_why q with ⟨hb, rfl⟩ | ⟨_, rfl, _, rfl⟩
  · exact S.tab hb
  · exact ⟨S.script, by rw [List.length_map]; exact S.short, vs, _, vals_ints S.whole, S.script⟩
theorem knownB : K.In (hidT s.heap (hpS K a vs ns cs)) := fun b o e => by
  refine hidT_get (S.known b o e) ?_
  cases q : hpS K a vs ns cs b with
  | none => rfl
  | some u =>
    rcases seen_why q with ⟨hb, _⟩ | ⟨_, rfl, hn, _⟩
    · obtain ⟨p, hp, rfl⟩ := List.mem_map.mp hb
      exact absurd ((S.apart p hp).symm.trans e) (by simp)
    · exact absurd (hn.symm.trans e) (by simp)
theorem modB : L2.Mod K mg (hidT s.heap (hpS K a vs ns cs)) where
  kin := S.knownB
  glob := S.belowNs S.main
  blt := ⟨mb, S.belowNs S.bns, S.boot⟩
  nolimit := by
    obtain ⟨mc, q1, q2⟩ := S.free
    exact ⟨mc, S.belowNs q1, q2⟩
theorem env : Env0 P w K mg (hidT s.heap (hpS K a vs ns cs)) callerA [] s (hpS K a vs ns cs) where
  frames := rfl
  mod := S.modB
  bs := fun _ _ e => of_hidT e
  bsz := by rw [hidT_size]; exact Nat.le_refl _
  funs := trivial
  frf := by
    intro b hb
    cases hb
  hok := S.hok
  bare := .of_eq S.still
theorem sq : SqL K (hpS K a vs ns cs) a (ns.map V.int) := by
  cases q : K.lookup a with
  | none => exact .inl (.inr ⟨_, seen_a S.ne_tab q⟩)
  | some o =>
    have eo : o = { cls := .type "list", data := .seq vs.toArray } := Option.some.inj ((S.known a o q).symm.trans S.script)
    subst eo
    refine .inr ⟨_, vs.toArray, _, q, rfl, rfl, rfl, ?_, by simpa using vals_ints S.whole⟩
    rw [List.size_toArray, S.whole.length]
    exact S.short
theorem tabB {p : Addr × Addr} (hp : p ∈ cs) : TabB (hidT s.heap (hpS K a vs ns cs)) mg p.1 p.2 where
  code := by
    obtain ⟨o, us, file, tf, flags, tg, inF, text, tt, e1, r1, r2, r3, rest⟩ := S.code p hp
    refine ⟨o, us, file, tf, flags, tg, inF, text, tt, S.below e1 (fun its n z => ?_) (fun z => ?_), r1, r2, r3, rest⟩
    · cases r2.symm.trans z
    · cases r2.symm.trans z
      simp at r3
  bm := by
    obtain ⟨m, om, e1, e2, e3, e4, e5, e6⟩ := S.mod
    refine ⟨m, om, e1, e2, fun z => ?_, fun z => ?_, S.below e3 (fun its n z => ?_) (fun z => ?_), e4, e5, e6⟩
    · obtain ⟨o, es, ep, e, hd, _⟩ := S.main
      subst z
      have eo := Option.some.inj (e.symm.trans e3)
      subst eo
      cases hd.symm.trans e6
    · subst z
      have eo := Option.some.inj ((S.bare p hp).symm.trans e3)
      subst eo
      cases e6
    · cases e6.symm.trans z
    · cases e6.symm.trans z
  gP := fun z => by
    obtain ⟨o, es, ep, e, hd, _⟩ := S.main
    rw [z] at e
    have eo := Option.some.inj ((S.bare p hp).symm.trans e)
    subst eo
    cases hd
/-- behind the call: all is as it was -/
theorem behind {H' : Hp} {h' : Heap} (un : Un (frs []) [] (hpS K a vs ns cs) H' s.heap h') (hok' : HOk P w H' h') : OldK s.heap h' := by
  have key : ∀ b o, s.heap.get? b = some o → (h'.get? b = some o) ∨ (b ∈ cs.map Prod.snd ∧ ∃ more : Array Value, h'.get? b = some { cls := .none, data := .fields more }) := by
    intro b o e
    cases q : hpS K a vs ns cs b with
    | none => exact .inl (un.keep b o e q List.not_mem_nil List.not_mem_nil)
    | some u =>
      rcases seen_why q with ⟨hb, rfl⟩ | ⟨_, rfl, _, rfl⟩
      · obtain ⟨more, z⟩ := un.tbls b _ q
        exact .inr ⟨hb, _, hok' b _ z⟩
      · obtain ⟨z, _⟩ := hok' b _ (un.frzs b _ _ q)
        rw [S.script] at e
        rw [← Option.some.inj e]
        exact .inl z
  constructor
  · intro b o e
    rcases key b o e with h | ⟨hb, more, h⟩
    · exact .inl h
    · obtain ⟨p, hp, rfl⟩ := List.mem_map.mp hb
      have eo := Option.some.inj ((S.bare p hp).symm.trans e)
      subst eo
      exact .inr (.inl ⟨((S.code p hp).tab (S.bare p hp)).isCodeTable, rfl, #[], more, rfl, by rw [Array.empty_append]; exact h⟩)
  · intro b o e
    rcases key b o e with h | ⟨_, _, h⟩
    · exact ⟨_, h⟩
    · exact ⟨_, h⟩
/-- the law's call -/
theorem call {k : Nat} {fa : Addr} {x y : Str} {sp : Sp} (hr : Room k callerA) (hm : mg x = some (.ref fa)) (F : ∀ base : Heap, K.In base → base.Ns mainGlobals mg → (∀ p ∈ cs, TabB base mg p.1 p.2) → RunG P w K mg base k x [y] sp)
    (hsp : ∀ H : Hp, (∀ p ∈ cs, H p.2 = some (.tbl #[])) → SqL K H a (ns.map V.int) → sp [.ref a] H (fun v _ => v = .bl true) fun _ _ _ => False) :
    codeAny (model P w) callerA (.call (.ref fa) ⟨[.ref a], []⟩) (fun r s' => r = .ok (.ret (.bool true)) ∧ OldK s.heap s'.heap ∧ s'.os = s.os ∧ AllBare s'.gens) s := by
  obtain ⟨f, fd, hm', hb, run⟩ := (F _ S.knownB (S.belowNs S.main) fun p hp => S.tabB hp).ex
  have ef : f = fa := by
    have e := hm'.symm.trans hm
    cases e
    rfl
  subst ef
  have bind : BindsTo s fd ⟨[.ref a], []⟩ ([y].zip [.ref a]) := hb s [.ref a] S.known rfl
  have go := run callerA [] s (hpS K a vs ns cs) _ _ [.ref a] (fun v _ => v = .bl true) (fun _ _ _ => False) hr rfl S.env bind (.cons rfl .nil) rfl (hsp _ (fun p hp => seen_t (List.mem_map_of_mem hp)) S.sq)
  refine codeAny_mono go fun r s' h => ?_
  match r, h with
  | .ok (.ret u), ⟨v, H', hos, hbare, un, hok', rv, (q : v = .bl true)⟩ =>
    subst q
    have eu : u = Value.bool true := rv
    subst eu
    exact ⟨rfl, S.behind un hok', hos, hbare⟩
end Stands
end
/-- what is to be shown of the law, at the head's heap h -/
def LawG (l : PySem.W.OpenLaw) (w : World) (K : PySem.W.Frag) (k n : Nat) (x y : Str) (mg : Str → Option Value) (h : Heap) : Prop :=
  ∃ (cs : List (Addr × Addr)) (sp : Sp), (∀ p ∈ cs, h.get? p.2 = some { cls := .none, data := .fields #[] } ∧ K.lookup p.2 = none ∧ PySem.W.CodeHd h p.1 p.2) ∧
    (∀ (H : Hp) (a : Addr) (ns : List Int), ns.length ≤ n → (∀ p ∈ cs, H p.2 = some (.tbl #[])) → SqL K H a (ns.map V.int) → sp [.ref a] H (fun v _ => v = .bl true) fun _ _ _ => False) ∧
    ∀ base : Heap, K.In base → base.Ns mainGlobals mg → (∀ p ∈ cs, TabB base mg p.1 p.2) → RunG l.prog w K mg base k x [y] sp
theorem walk_G {l : PySem.W.OpenLaw} {n k : Nat} {q : Program} {loose : List Str} {XP : (Str → Option Value) → Heap → Prop} {YP : World → Heap → Prop} {d : DefRec} {y : Str} (h1 : l.most = some n) (h2 : n ≤ sizeLine) (h3 : d.params.defaults = []) (hr : Room k callerA)
    (F : ∀ (w : World) (mg : Str → Option Value) (fa : Addr) (h : Heap), YP w h → h.Ns mainGlobals mg → mg d.name = some (.ref fa) → ∃ K : PySem.W.Frag, K.In h ∧ LawG l w K k n d.name y mg h) : PySem.W.WalkO q loose XP YP l.row.toRowW d [] (fun f vs => PySem.call f vs) := by
  apply Att.attach_callB h1 h3
  intro w s0 s mg mb fa o pm cd doc a vs ns G Y _ _ _ hm hscript hints hlen _ hgens
  obtain ⟨K, hK, cs, sp, ht, hsp, run⟩ := F w mg fa _ Y G.T.g hm
  have S : Stands K mg mb a vs ns cs s := ⟨hK, G.T.g, G.T.b, G.T.builtins, G.T.nolimit, hgens, fun p hp => (ht p hp).1, fun p hp => (ht p hp).2.1, fun p hp => (ht p hp).2.2, G.T.bmain, hscript, hints, Nat.le_trans hlen h2⟩
  exact S.call hr hm run fun H hH hS => hsp H a ns hlen hH hS
/-! ### facts of the head -/
section
variable {K : PySem.W.Frag} {h : Heap} {mg : Str → Option Value}
theorem xcl_of {x : Str} (g : mg x = some (.ref (He.ga K x))) (c : (He.Fa.exc x).ok K = true) : XCl K mg x (He.ga K x) := by
  obtain ⟨h1, h2, h3, h4⟩ := He.exc_ok c
  exact ⟨g, h1, h2, h3, h4⟩
/-- that isinstance may be asked of an error of class C -/
def excB (K : PySem.W.Frag) (C : Addr) : Bool :=
  decide (PySem.W.findIn K (.ref C) "__getattribute__" = some (some (.builtin "BaseException.__getattribute__"))) &&
  (decide (PySem.W.findIn K (.ref C) "__getattr__" = some none) &&
  (decide (PySem.W.subIn K (.ref C) (.type "BaseException") = some true) &&
  (PySem.W.hasDictIn K C &&
  (decide (PySem.W.findIn K (.ref C) "__class__" = some (some (.builtin "object.__class__"))) &&
  (decide (PySem.W.specialIn K (.builtin "object.__class__") "__get__" = some (some (.builtin "getset_descriptor.__get__"))) &&
  (decide (PySem.W.takesIn K (.builtin "object.__class__") = some true) &&
  decide (PySem.W.mroIn K C (.type "object") = some true)))))))
theorem excB_ok {C : Addr} (c : excB K C = true) : ExcC K C := by
  obtain ⟨c1, c⟩ := He.ba c
  obtain ⟨c2, c⟩ := He.ba c
  obtain ⟨c3, c⟩ := He.ba c
  obtain ⟨c4, c⟩ := He.ba c
  obtain ⟨c5, c⟩ := He.ba c
  obtain ⟨c6, c⟩ := He.ba c
  obtain ⟨c7, c8⟩ := He.ba c
  exact ⟨of_decide_eq_true c1, of_decide_eq_true c2, of_decide_eq_true c3, c4, of_decide_eq_true c5, of_decide_eq_true c6, of_decide_eq_true c7, of_decide_eq_true c8⟩
theorem kit_self {C : Addr} : PySem.W.kitOne K (.ref C) (.ref C) = some true := by
  unfold PySem.W.kitOne
  rw [beq_self_eq_true]
  rfl
/-- what is asked of an error's class C behind the class E -/
def isB (K : PySem.W.Frag) (E C : Str) : Bool := decide (PySem.W.exmOne K (.ref (He.ga K C)) (.ref (He.ga K E)) = some true) && excB K (He.ga K C)
theorem isB_ok {E C : Str} (c : isB K E C = true) : PySem.W.exmOne K (.ref (He.ga K C)) (.ref (He.ga K E)) = some true ∧ ExcC K (He.ga K C) ∧ PySem.W.kitOne K (.ref (He.ga K C)) (.ref (He.ga K C)) = some true := by
  obtain ⟨c1, c2⟩ := He.ba c
  exact ⟨of_decide_eq_true c1, excB_ok c2, kit_self⟩
/-- a def that may be called by keywords -/
theorem dfK_of {x : Str} {st : Stmt} {ps : List Str} {f : Addr} {fd : FuncData} (F : FunD K x x (fnArgs st) (fnBody st) (fnScope st) [] [] f fd) (hm : mg x = some (.ref f))
    (hb : ∀ (kV doc pm : Value) (an : Option Addr) (cdv ct : Value) (us : List Value), us.length = ps.length → bindArgs (PySem.W.fnOf x x (fnArgs st) (fnBody st) (fnScope st) .none kV doc pm an cdv ct) ⟨us, []⟩ = pure (ps.zip us))
    (hb2 : ∀ (kV doc pm : Value) (an : Option Addr) (cdv ct : Value) (us : List Value), us.length = ps.length → bindArgs (PySem.W.fnOf x x (fnArgs st) (fnBody st) (fnScope st) .none kV doc pm an cdv ct) ⟨[], ps.reverse.zip us⟩ = pure (ps.zip us.reverse)) : DfK K mg x st ps fd.code := by
  obtain ⟨oc, od, dV, kV, doc, pm, an, cdv, ct, osl, rfl, lk, hcd, hd, _⟩ := F.ex
  have e : dV = .none := by
    rcases hd with ⟨_, e⟩ | ⟨n, _⟩
    · exact e
    · exact absurd rfl n
  subst e
  exact ⟨f, oc, od, kV, doc, pm, an, ct, osl, lk, hcd, hm, F.kp, .all fun us hl => hb kV doc pm an cdv ct us hl, fun us hl => hb2 kV doc pm an cdv ct us hl⟩
end
end Fx

set_option Elab.async false
set_option linter.all false
set_option maxRecDepth 100000
set_option maxHeartbeats 4000000
/-! The package's defs: layings, cells, lots. -/
namespace K62
open PySem PySem.Spec PyProof.Rows L2 LamX C8 Fx
def top (i : Nat) : Stmt := PySem.Challenge.pw_lanesmeet_k62_layings_and_banks.main.body.getD i (.Pass ⟨0, 0, 0, 0⟩)
structure Bn (mg : Str → Option Value) : Prop where
  isinstance : mg "isinstance" = none
  int : mg "int" = none
  bool : mg "bool" = none
  str : mg "str" = none
  dict : mg "dict" = none
  list : mg "list" = none
  tuple : mg "tuple" = none
  all : mg "all" = none
  zip : mg "zip" = none
  range : mg "range" = none
  len : mg "len" = none
  min : mg "min" = none
  max : mg "max" = none
  abs : mg "abs" = none
  repr : mg "repr" = none
  cMOST_BANKS : ∃ t, mg "MOST_BANKS" = some (.int 32 t)
  cMOST_COUNT : ∃ t, mg "MOST_COUNT" = some (.int 16 t)
  cMOST_STEP : ∃ t, mg "MOST_STEP" = some (.int 31 t)
/-- the classes of errors -/
structure Ec where
  LaneError : Addr
  BadCell : Addr
  BadBanks : Addr
  BadCounts : Addr
  BadLaying : Addr
  BadLot : Addr
structure EcOk (K : PySem.W.Frag) (mg : Str → Option Value) (e : Ec) : Prop where
  LaneError : XCl K mg "LaneError" e.LaneError
  BadCell : XCl K mg "BadCell" e.BadCell
  BadBanks : XCl K mg "BadBanks" e.BadBanks
  BadCounts : XCl K mg "BadCounts" e.BadCounts
  BadLaying : XCl K mg "BadLaying" e.BadLaying
  BadLot : XCl K mg "BadLot" e.BadLot
  is : ∀ c ∈ [e.BadCell, e.BadBanks, e.BadCounts, e.BadLaying, e.BadLot], PySem.W.exmOne K (.ref c) (.ref e.LaneError) = some true ∧ ExcC K c ∧ PySem.W.kitOne K (.ref c) (.ref c) = some true
mutual
def pl : D → Bool
  | .tup ds => plL ds && decide (ds.length ≤ 1000)
  | .lst ds => plL ds && decide (ds.length ≤ 1000)
  | .dic _ => false
  | .raw _ => false
  | .exc _ _ => false
  | _ => true
def plL : List D → Bool
  | [] => true
  | d :: ds => pl d && plL ds
end
theorem plL_all : ∀ {ds : List D}, plL ds = true → ∀ d ∈ ds, pl d = true
  | [], _, d, h => by cases h
  | e :: ds, h, d, hd => by
    rw [plL, Bool.and_eq_true] at h
    rcases List.mem_cons.mp hd with rfl | hd
    · exact h.1
    · exact plL_all h.2 d hd
theorem plL_of : ∀ {ds : List D}, (∀ d ∈ ds, pl d = true) → plL ds = true
  | [], _ => by rw [plL]
  | e :: ds, h => by rw [plL, h e List.mem_cons_self, plL_of fun d hd => h d (List.mem_cons_of_mem _ hd)]; rfl
theorem pl_tup {ds : List D} (h : pl (.tup ds) = true) : ds.length ≤ 1000 ∧ ∀ d ∈ ds, pl d = true := by
  rw [pl, Bool.and_eq_true, decide_eq_true_eq] at h
  exact ⟨h.2, plL_all h.1⟩
theorem pl_tup_of {ds : List D} (h : ∀ d ∈ ds, pl d = true) (hl : ds.length ≤ 1000) : pl (.tup ds) = true := by
  rw [pl, plL_of h, decide_eq_true hl]; rfl
theorem pl_lst_of {ds : List D} (h : ∀ d ∈ ds, pl d = true) (hl : ds.length ≤ 1000) : pl (.lst ds) = true := by
  rw [pl, plL_of h, decide_eq_true hl]; rfl
theorem pl_int {i : Int} : pl (.int i) = true := by rw [pl] <;> simp
theorem pl_str {i : Str} : pl (.str i) = true := by rw [pl] <;> simp
theorem pl_ty {d : D} (h : pl d = true) : ∃ t, TyD d t := by
  cases d with
  | non => exact ⟨_, .non⟩
  | bl b => exact ⟨_, .bl b⟩
  | int i => exact ⟨_, .int i⟩
  | str s => exact ⟨_, .str s⟩
  | tup ds => exact ⟨_, .tup ds⟩
  | lst ds => exact ⟨_, .lst ds⟩
  | dic k => rw [pl] at h; cases h
  | raw v => rw [pl] at h; cases h
  | exc c f => rw [pl] at h; cases h
def isT : D → Bool
  | .tup _ => true
  | _ => false
def isI : D → Bool
  | .int _ => true
  | .bl _ => true
  | _ => false
def isB : D → Bool
  | .bl _ => true
  | _ => false
def isS : D → Bool
  | .str _ => true
  | _ => false
def isNum : D → Bool
  | .int _ => true
  | _ => false
section
variable {T : List (Addr × Str)} {W : Wld T} {K : PySem.W.Frag}
theorem rdl_isT {d : D} (h : pl d = true) : RDL W (rIsi K) [d, .raw (.ty "tuple")] (.bl (isT d)) := by
  obtain ⟨t, h⟩ := pl_ty h
  cases h <;> first | exact rdl_isi (b := true) (by constructor) (kit_ty (by decide +kernel)) | exact rdl_isi (b := false) (by constructor) (kit_ty (by decide +kernel))
theorem rdl_isI {d : D} (h : pl d = true) : RDL W (rIsi K) [d, .raw (.ty "int")] (.bl (isI d)) := by
  obtain ⟨t, h⟩ := pl_ty h
  cases h <;> first | exact rdl_isi (b := true) (by constructor) (kit_ty (by decide +kernel)) | exact rdl_isi (b := false) (by constructor) (kit_ty (by decide +kernel))
theorem rdl_isB {d : D} (h : pl d = true) : RDL W (rIsi K) [d, .raw (.ty "bool")] (.bl (isB d)) := by
  obtain ⟨t, h⟩ := pl_ty h
  cases h <;> first | exact rdl_isi (b := true) (by constructor) (kit_ty (by decide +kernel)) | exact rdl_isi (b := false) (by constructor) (kit_ty (by decide +kernel))
theorem rdl_isS {d : D} (h : pl d = true) : RDL W (rIsi K) [d, .raw (.ty "str")] (.bl (isS d)) := by
  obtain ⟨t, h⟩ := pl_ty h
  cases h <;> first | exact rdl_isi (b := true) (by constructor) (kit_ty (by decide +kernel)) | exact rdl_isi (b := false) (by constructor) (kit_ty (by decide +kernel))
end
theorem isT_ex {d : D} (h : isT d = true) : ∃ ds, d = .tup ds := by
  cases d <;> first | exact ⟨_, rfl⟩ | cases h
theorem isS_ex {d : D} (h : isS d = true) : ∃ s, d = .str s := by
  cases d <;> first | exact ⟨_, rfl⟩ | cases h
theorem isNum_ex {d : D} (h : isNum d = true) : ∃ s, d = .int s := by
  cases d <;> first | exact ⟨_, rfl⟩ | cases h
def btw (d : D) (lo hi : Int) : Bool := match d with
  | .int i => decide (lo ≤ i) && decide (i ≤ hi)
  | _ => false
section
variable {P : Program} {w : World} {K : PySem.W.Frag} {mg : Str → Option Value} {base : Heap} {T : List (Addr × Str)} {cdv : Value} {c0 P0 : Addr} {ec : Ec}
def fIsNumber : List D → D → Prop := fun ds d => ∃ x, ds = [x] ∧ pl x = true ∧ d = .bl (isNum x)
theorem nd_is_number : (["value"] : List PySem.Str).Nodup := by decide +kernel
theorem ok_is_number (F : Df K mg "is_number" (top 8) ["value"] cdv) (B : Bn mg) : Cal P w K mg base (0 + 1) "is_number" (SpD T fIsNumber) [] := by
  have nd := nd_is_number
  refine calD (N := ["value"]) F (by decide +kernel) ?len (fun a A outer s H E hr => ⟨_, (pss_one (ps_ret (pe_and (pe_callB (kisi K) rfl (by exact B.isinstance) (by decide +kernel) (pa_cons (pv 0) (pa_cons (pe_bltn (v := .ty "int") rfl (by exact B.int) (by decide +kernel) rfl) pa_nil))) (pe_one (pe_not (pe_callB (kisi K) rfl (by exact B.isinstance) (by decide +kernel) (pa_cons (pv 0) (pa_cons (pe_bltn (v := .ty "bool") rfl (by exact B.bool) (by decide +kernel) rfl) pa_nil)))))))), ?rd⟩)
  case len => rintro ds d ⟨i, rfl, _, rfl⟩; rfl
  case rd =>
    rintro ds d ⟨x, rfl, hx, rfl⟩
    refine tr_ret ((ed_andV (ed_CB (ea_cons (ed_var rfl) (ea_cons ed_raw ea_nil)) (rdl_isI hx)) fun _ => ed_notV (ed_CB (ea_cons (ed_var rfl) (ea_cons ed_raw ea_nil)) (rdl_isB hx))).eq ?_) rfl
    cases x <;> rfl
def fBtw : List D → D → Prop := fun ds d => ∃ x lo hi, ds = [x, .int lo, .int hi] ∧ pl x = true ∧ d = .bl (btw x lo hi)
theorem nd_is_between : (["thing", "low", "high"] : List PySem.Str).Nodup := by decide +kernel
theorem ok_is_between (F : Df K mg "is_between" (top 13) ["thing", "low", "high"] cdv) (B : Bn mg) (c_is_number : Cal P w K mg base 1 "is_number" (SpD T fIsNumber) []) : Cal P w K mg base (1 + 1) "is_between" (SpD T fBtw) [] := by
  have nd := nd_is_between
  refine calD (N := ["thing", "low", "high"]) F (by decide +kernel) ?len (fun a A outer s H E hr => ⟨_, (pss_one (ps_ret (pe_and (pe_c c_is_number hr (by omega) rfl (pa_cons (pv 0) pa_nil)) (pe_one (pe_chain op_le op_le (pv 1) (pv 0) (pv 2)))))), ?rd⟩)
  case len => rintro ds d ⟨x, lo, hi, rfl, _, rfl⟩; rfl
  case rd =>
    rintro ds d ⟨x, lo, hi, rfl, hx, rfl⟩
    cases hn : isNum x with
    | false =>
      refine tr_ret ((ed_andV (b := false) (ed_call (ea_cons (ed_var rfl) ea_nil) ⟨x, rfl, hx, rfl⟩) fun h => ?_).eq ?_) rfl
      · rw [hn] at h; cases h
      · rw [hn]
        cases x <;> first | rfl | cases hn
    | true =>
      obtain ⟨i, rfl⟩ := isNum_ex hn
      refine tr_ret ((ed_andV (ed_call (ea_cons (ed_var rfl) ea_nil) ⟨_, rfl, hx, rfl⟩) fun h => et_chain (ed_var rfl) (ed_var rfl) (fun _ => ed_var rfl) rd_le fun _ => rd_le).eq ?_) rfl
      rfl
def okC (d : D) : Bool := match d with
  | .tup ds => decide (1 ≤ ds.length) && decide (ds.length ≤ 2) && ds.all fun e => btw e 1 16
  | _ => false
def fNeedC (ec : Ec) : List D → Rs → Prop := fun ds r => ∃ x, ds = [x] ∧ pl x = true ∧ r = if okC x then .ret .non else .exc ec.BadCounts []
theorem nd_need_counts : (["counts", "count"] : List PySem.Str).Nodup := by decide +kernel
theorem ok_need_counts (F : Df K mg "need_counts" (top 14) ["counts"] cdv) (B : Bn mg) (C : EcOk K mg ec) (c_is_between : Cal P w K mg base 2 "is_between" (SpD T fBtw) []) : CalX P w K mg base (2 + 1) "need_counts" (SpR T (fNeedC ec)) := by
  have nd := nd_need_counts
  refine calX (N := ["counts", "count"]) F (by decide +kernel) ?len (fun a A outer s H E hr => ⟨_, (pss_cons (ps_if (PW.pt (pw_or (pt_not (pt_val (pe_callB (kisi K) rfl (by exact B.isinstance) (by decide +kernel) (pa_cons (pv 0) (pa_cons (pe_bltn (v := .ty "tuple") rfl (by exact B.tuple) (by decide +kernel) rfl) pa_nil))))) (pw_or1 (pt_not (pt_chain op_le op_le pe_int (pe_callB (klen K) rfl (by exact B.len) (by decide +kernel) (pa_cons (pv 0) pa_nil)) pe_int))))) (pss_one (ps_rz C.BadCounts rfl (takes_of rfl rfl rfl rfl) rfl)) pss_nil)
    (pss_one (ps_if (pt_not (pt_val (pe_callB (kall K rfl) rfl (by exact B.all) (by decide +kernel) (pa_cons (pe_lc rfl nd (kpi_tup K (pv 0)) (blkOk_by (own := [("count", 1)]) (by rfl)) (fun _ _ _ _ _ => (pg_name (i := 1) nd rfl (Or.inl rfl))) (fun _ _ _ _ _ => pts_nil) (fun _ _ _ _ _ => (pe_c c_is_between hr (by omega) rfl (pa_cons (pv 1) (pa_cons pe_int (pa_cons (pe_cI rfl (by exact B.cMOST_COUNT)) pa_nil)))))) pa_nil)))) (pss_one (ps_rz C.BadCounts rfl (takes_of rfl rfl rfl rfl) rfl)) pss_nil))), ?rd⟩)
  case len => rintro ds d ⟨x, rfl, _, rfl⟩; rfl
  case rd =>
    rintro ds r ⟨x, rfl, hx, rfl⟩
    cases hT : isT x with
    | false =>
      have eo : okC x = false := by cases x <;> first | rfl | cases hT
      refine tr_when (et_or (b := false) (et_not (et_B (ed_CB (ea_cons (ed_var rfl) (ea_cons ed_raw ea_nil)) (rdl_isT hx)))) fun h => by rw [hT] at h; cases h) (fun _ => tr_raise ?_) (fun h => by rw [hT] at h; cases h)
      show (if okC x then Rs.ret .non else .exc ec.BadCounts []) = _
      rw [eo]; rfl
    | true =>
      obtain ⟨es, rfl⟩ := isT_ex hT
      obtain ⟨hl, hp⟩ := pl_tup hx
      refine tr_when (et_or (et_not (et_B (ed_CB (ea_cons (ed_var rfl) (ea_cons ed_raw ea_nil)) (rdl_isT hx)))) fun h => et_not (et_B (et_chain ed_int (ed_CB (ea_cons (ed_var rfl) ea_nil) rdl_lenT) (fun _ => ed_int) rd_le fun _ => rd_le))) (fun h => tr_raise ?_) (fun h => ?_)
      · show (if okC (.tup es) then Rs.ret .non else .exc ec.BadCounts []) = _
        have eo : okC (.tup es) = false := by
          unfold okC
          have : (decide ((1 : Int) ≤ (es.length : Nat)) && decide (((es.length : Nat) : Int) ≤ 2)) = false := by
            simp [isT] at h ⊢
            omega
          have : (decide (1 ≤ es.length) && decide (es.length ≤ 2)) = false := by
            rw [← this]
            congr 1 <;> exact decide_eq_decide.mpr (by omega)
          simp only [this, Bool.false_and]
        rw [eo]; rfl
      · have hq : (decide (1 ≤ es.length) && decide (es.length ≤ 2)) = true := by
          have : (decide ((1 : Int) ≤ (es.length : Nat)) && decide (((es.length : Nat) : Int) ≤ 2)) = true := by simpa [isT] using h
          rw [← this]
          congr 1 <;> exact decide_eq_decide.mpr (by omega)
        have eo : okC (.tup es) = es.all fun e => btw e 1 16 := by
          unfold okC
          simp only [hq, Bool.true_and]
        refine tr_if (et_not (et_B (ed_CB (ea_cons (ed_map1 es id (fun e => .bl (btw e 1 16)) (src_tup (by rw [List.map_id]; exact ed_var rfl)) (by omega) fun e he => ed_call (ea_cons (ed_var rfl) (ea_cons ed_int (ea_cons ed_int ea_nil))) ⟨e, 1, 16, rfl, hp e he, rfl⟩) ea_nil) (by
          have e2 : (es.map fun e => D.bl (btw e 1 16)) = (es.map fun e => btw e 1 16).map D.bl := by rw [List.map_map]; rfl
          rw [e2]
          exact rdl_all)))) (fun h2 => tr_raise ?_) (fun h2 => tr_next ?_)
        · show (if okC (.tup es) then Rs.ret .non else .exc ec.BadCounts []) = _
          have : okC (.tup es) = false := by rw [eo]; simpa using h2
          rw [this]; rfl
        · show (if okC (.tup es) then Rs.ret .non else .exc ec.BadCounts []) = _
          have : okC (.tup es) = true := by rw [eo]; simpa using h2
          rw [this]; rfl
def fNeedB (ec : Ec) : List D → Rs → Prop := fun ds r => ∃ x, ds = [x] ∧ pl x = true ∧ r = if btw x 1 32 then .ret .non else .exc ec.BadBanks []
theorem nd_need_banks : (["banks"] : List PySem.Str).Nodup := by decide +kernel
theorem ok_need_banks (F : Df K mg "need_banks" (top 15) ["banks"] cdv) (B : Bn mg) (C : EcOk K mg ec) (c_is_between : Cal P w K mg base 2 "is_between" (SpD T fBtw) []) : CalX P w K mg base (2 + 1) "need_banks" (SpR T (fNeedB ec)) := by
  have nd := nd_need_banks
  refine calX (N := ["banks"]) F (by decide +kernel) ?len (fun a A outer s H E hr => ⟨_, (pss_one (ps_if (pt_not (pt_val (pe_c c_is_between hr (by omega) rfl (pa_cons (pv 0) (pa_cons pe_int (pa_cons (pe_cI rfl (by exact B.cMOST_BANKS)) pa_nil)))))) (pss_one (ps_rz C.BadBanks rfl (takes_of rfl rfl rfl rfl) rfl)) pss_nil)), ?rd⟩)
  case len => rintro ds d ⟨x, rfl, _, rfl⟩; rfl
  case rd =>
    rintro ds r ⟨x, rfl, hx, rfl⟩
    refine tr_if (et_not (et_B (ed_call (ea_cons (ed_var rfl) (ea_cons ed_int (ea_cons ed_int ea_nil))) ⟨x, 1, 32, rfl, hx, rfl⟩))) (fun h2 => tr_raise ?_) (fun h2 => tr_next ?_)
    · show (if btw x 1 32 then Rs.ret .non else .exc ec.BadBanks []) = _
      have : btw x 1 32 = false := by simpa using h2
      rw [this]; rfl
    · show (if btw x 1 32 then Rs.ret .non else .exc ec.BadBanks []) = _
      have : btw x 1 32 = true := by simpa using h2
      rw [this]; rfl
/-- the counts that are right -/
def CsOk (cs : List Int) : Prop := (cs.length = 1 ∨ cs.length = 2) ∧ ∀ x ∈ cs, 1 ≤ x ∧ x ≤ 16
def rowsF (cs : List Int) : Int := match cs with
  | [_] => 1
  | a :: _ => a
  | [] => 0
def colsF (cs : List Int) : Int := match cs with
  | [a] => a
  | _ :: b :: _ => b
  | [] => 0
theorem CsOk.cases {cs : List Int} (h : CsOk cs) : (∃ a, cs = [a]) ∨ ∃ a b, cs = [a, b] := by
  match cs, h.1 with
  | [a], _ => exact .inl ⟨a, rfl⟩
  | [a, b], _ => exact .inr ⟨a, b, rfl⟩
  | [], h => simp at h
  | _ :: _ :: _ :: _, h => simp at h
def fShape : List D → D → Prop := fun ds d => ∃ cs, ds = [dI cs] ∧ CsOk cs ∧ d = dI [rowsF cs, colsF cs]
theorem nd_shape_of : (["counts"] : List PySem.Str).Nodup := by decide +kernel
theorem ok_shape_of (F : Df K mg "shape_of" (top 16) ["counts"] cdv) (B : Bn mg) : Cal P w K mg base (0 + 1) "shape_of" (SpD T fShape) [] := by
  have nd := nd_shape_of
  refine calD (N := ["counts"]) F (by decide +kernel) ?len (fun a A outer s H E hr => ⟨_, (pss_one (ps_ret (pe_ifExp (pt_cmpR (keq K hr.units) (pe_callB (klen K) rfl (by exact B.len) (by decide +kernel) (pa_cons (pv 0) pa_nil)) pe_int (nomark _)) (pe_tup (pa_cons pe_int (pa_cons (pe_ix (kix K) (pv 0) pe_int (fun _ _ => rfl)) pa_nil))) (pe_tup (pa_cons (pe_ix (kix K) (pv 0) pe_int (fun _ _ => rfl)) (pa_cons (pe_ix (kix K) (pv 0) pe_int (fun _ _ => rfl)) pa_nil)))))), ?rd⟩)
  case len => rintro ds d ⟨x, rfl, _, rfl⟩; rfl
  case rd =>
    rintro ds d ⟨cs, rfl, hc, rfl⟩
    refine tr_ret (ed_if (et_B (ed_op (ed_CB (ea_cons (ed_var rfl) ea_nil) rdl_lenT) ed_int rd_eqI)) (fun h => ?_) (fun h => ?_)) rfl
    · rcases hc.cases with ⟨a, rfl⟩ | ⟨a, b, rfl⟩
      · exact ed_tup (ea_cons ed_int (ea_cons (ed_op (ed_var rfl) ed_int (rd_ixT (i := 0) rfl)) ea_nil)) (by simp)
      · simp at h
    · rcases hc.cases with ⟨a, rfl⟩ | ⟨a, b, rfl⟩
      · simp at h
      · exact ed_tup (ea_cons (ed_op (ed_var rfl) ed_int (rd_ixT (i := 0) rfl)) (ea_cons (ed_op (ed_var rfl) ed_int (rd_ixT (i := 1) rfl)) ea_nil)) (by simp)
def isCell (cs : List Int) (d : D) : Bool := match d with
  | .tup [a, b] => btw a 0 (rowsF cs - 1) && btw b 0 (colsF cs - 1)
  | _ => false
def fIsCell : List D → D → Prop := fun ds d => ∃ cs x, ds = [dI cs, x] ∧ CsOk cs ∧ pl x = true ∧ d = .bl (isCell cs x)
theorem pair_of {x : D} (h : isT x = true) (hl : ∀ ds, x = .tup ds → ds.length = 2) : ∃ a b, x = .tup [a, b] := by
  obtain ⟨ds, rfl⟩ := isT_ex h
  match ds, hl ds rfl with
  | [a, b], _ => exact ⟨a, b, rfl⟩
def len2 : D → Bool
  | .tup [_, _] => true
  | _ => false
theorem nd_is_cell_of : (["counts", "thing", "rows", "columns"] : List PySem.Str).Nodup := by decide +kernel
theorem ok_is_cell_of (F : Df K mg "is_cell_of" (top 17) ["counts", "thing"] cdv) (B : Bn mg) (c_is_between : Cal P w K mg base 2 "is_between" (SpD T fBtw) []) (c_shape_of : Cal P w K mg base 1 "shape_of" (SpD T fShape) []) : Cal P w K mg base (2 + 1) "is_cell_of" (SpD T fIsCell) [] := by
  have nd := nd_is_cell_of
  refine calD (N := ["counts", "thing", "rows", "columns"]) F (by decide +kernel) ?len (fun a A outer s H E hr => ⟨_, (pss_cons (ps_asg (pe_c c_shape_of hr (by omega) rfl (pa_cons (pv 0) pa_nil)) (pg_tup rfl (pgs_cons (pg_name (i := 2) nd rfl (Or.inl rfl)) (pgs_cons (pg_name (i := 3) nd rfl (Or.inl rfl)) pgs_nil))))
    (pss_cons (ps_if (PW.pt (pw_or (pt_not (pt_val (pe_callB (kisi K) rfl (by exact B.isinstance) (by decide +kernel) (pa_cons (pv 1) (pa_cons (pe_bltn (v := .ty "tuple") rfl (by exact B.tuple) (by decide +kernel) rfl) pa_nil))))) (pw_or1 (pt_cmpR (kne K hr.units) (pe_callB (klen K) rfl (by exact B.len) (by decide +kernel) (pa_cons (pv 1) pa_nil)) pe_int (nomark _))))) (pss_one (ps_ret pe_bl)) pss_nil)
    (pss_one (ps_ret (pe_and (pe_c c_is_between hr (by omega) rfl (pa_cons (pe_ix (kix K) (pv 1) pe_int (fun _ _ => rfl)) (pa_cons pe_int (pa_cons (pe_op op_sub (pv 2) pe_int) pa_nil)))) (pe_one (pe_c c_is_between hr (by omega) rfl (pa_cons (pe_ix (kix K) (pv 1) pe_int (fun _ _ => rfl)) (pa_cons pe_int (pa_cons (pe_op op_sub (pv 3) pe_int) pa_nil)))))))))), ?rd⟩)
  case len => rintro ds d ⟨cs, x, rfl, _, _, rfl⟩; rfl
  case rd =>
    rintro ds d ⟨cs, x, rfl, hc, hx, rfl⟩
    refine tr_tg (ed_call (ea_cons (ed_var rfl) ea_nil) ⟨cs, rfl, hc, rfl⟩) tg_tup2 ?_
    cases hT : isT x with
    | false =>
      refine tr_when (et_or (b := false) (et_not (et_B (ed_CB (ea_cons (ed_var rfl) (ea_cons ed_raw ea_nil)) (rdl_isT hx)))) fun h => by rw [hT] at h; cases h) (fun _ => tr_ret ed_bl ?_) (fun h => by rw [hT] at h; cases h)
      show D.bl false = .bl (isCell cs x)
      cases x <;> first | rfl | cases hT
    | true =>
      obtain ⟨es, rfl⟩ := isT_ex hT
      obtain ⟨hl, hp⟩ := pl_tup hx
      refine tr_when (et_or (et_not (et_B (ed_CB (ea_cons (ed_var rfl) (ea_cons ed_raw ea_nil)) (rdl_isT hx)))) fun h => et_B (ed_op (ed_CB (ea_cons (ed_var rfl) ea_nil) rdl_lenT) ed_int rd_neI)) (fun h => tr_ret ed_bl ?_) (fun h => ?_)
      · show D.bl false = .bl (isCell cs (.tup es))
        have : es.length ≠ 2 := by
          simp [isT] at h
          omega
        match es, this with
        | [], _ => rfl
        | [_], _ => rfl
        | [_, _], h => exact absurd rfl h
        | _ :: _ :: _ :: _, _ => rfl
      · have : es.length = 2 := by
          simp [isT] at h
          omega
        match es, this with
        | [a, b], _ =>
          refine tr_ret (ed_andV (ed_call (ea_cons (ed_op (ed_var rfl) ed_int (rd_ixT (i := 0) rfl)) (ea_cons ed_int (ea_cons (ed_op (ed_var rfl) ed_int rd_sub) ea_nil))) ⟨a, _, _, rfl, hp a (by simp), rfl⟩) fun _ => ed_call (ea_cons (ed_op (ed_var rfl) ed_int (rd_ixT (i := 1) rfl)) (ea_cons ed_int (ea_cons (ed_op (ed_var rfl) ed_int rd_sub) ea_nil))) ⟨b, _, _, rfl, hp b (by simp), rfl⟩) rfl
/-- the layings -/
inductive Way where
  | pad (n : Int) | tur (n : Int) | lis (ns : List Int)
def Way.d : Way → D
  | .pad n => .tup [.str "padded", .int n]
  | .tur n => .tup [.str "turned", .int n]
  | .lis ns => .tup [.str "listed", dI ns]
def Way.Ok (cs : List Int) (m : Int) : Way → Prop
  | .pad n => 0 ≤ n ∧ n ≤ 31
  | .tur n => 0 ≤ n ∧ n ≤ 31
  | .lis ns => ((ns.length : Nat) : Int) = rowsF cs * colsF cs ∧ ∀ x ∈ ns, 0 ≤ x ∧ x < m
def lisOk (cs : List Int) (m : Int) (x : D) : Bool := match x with
  | .tup ds => decide (((ds.length : Nat) : Int) = rowsF cs * colsF cs) && ds.all fun e => btw e 0 (m - 1)
  | _ => false
def isLay (cs : List Int) (m : Int) (d : D) : Bool := match d with
  | .tup [.str s, x] => if s = "padded" ∨ s = "turned" then btw x 0 31 else if s = "listed" then lisOk cs m x else false
  | _ => false
theorem isLay_eq {cs : List Int} {m : Int} {s : Str} {x : D} : isLay cs m (.tup [.str s, x]) = if s = "padded" ∨ s = "turned" then btw x 0 31 else if s = "listed" then lisOk cs m x else false := rfl
def fIsLay : List D → D → Prop := fun ds d => ∃ cs m x, ds = [dI cs, .int m, x] ∧ CsOk cs ∧ pl x = true ∧ d = .bl (isLay cs m x)
theorem rd_mulB {T : List (Addr × Str)} {W : Wld T} {i j : Int} (hi : i.natAbs < 2 ^ 60) (hj : j.natAbs < 2 ^ 60) : RD2 W (rI CMulW fun i j => .int (i * j)) (.int i) (.int j) (.int (i * j)) := rd_I (wide_mul (a := 60) (b := 60) hi hj (by decide) (by decide) (by decide)) fun _ => .int _
theorem CsOk.b {cs : List Int} (h : CsOk cs) : 1 ≤ rowsF cs ∧ rowsF cs ≤ 16 ∧ 1 ≤ colsF cs ∧ colsF cs ≤ 16 := by
  rcases h.cases with ⟨a, rfl⟩ | ⟨a, b, rfl⟩
  · have := h.2 a (by simp)
    exact ⟨Int.le_refl 1, (by show (1 : Int) ≤ 16; decide), this.1, this.2⟩
  · have h1 := h.2 a (by simp)
    have h2 := h.2 b (by simp)
    exact ⟨h1.1, h1.2, h2.1, h2.2⟩
theorem rd_eqS {T : List (Addr × Str)} {W : Wld T} {a b : Str} : RD2 W rEq (.str a) (.str b) (.bl (decide (a = b))) := fun c G H v1 v2 g j r1 r2 Q q => by
  cases r1
  cases r2
  refine ⟨rfl, ?_⟩
  have e : decide (V.str a = V.str b) = decide (a = b) := decide_eq_decide.mpr ⟨fun h => by cases h; rfl, fun h => by rw [h]⟩
  rw [e]
  exact q.here g j (.bl _)
theorem rd_neS {T : List (Addr × Str)} {W : Wld T} {a b : Str} : RD2 W rNe (.str a) (.str b) (.bl (!decide (a = b))) := fun c G H v1 v2 g j r1 r2 Q q => by
  cases r1
  cases r2
  refine ⟨rfl, ?_⟩
  have e : decide (V.str a = V.str b) = decide (a = b) := decide_eq_decide.mpr ⟨fun h => by cases h; rfl, fun h => by rw [h]⟩
  rw [e]
  exact q.here g j (.bl _)
def strPair : D → Bool
  | .tup [.str _, _] => true
  | _ => false
theorem strPair_ex {x : D} (h : strPair x = true) : ∃ s y, x = .tup [.str s, y] := by
  unfold strPair at h
  split at h
  · exact ⟨_, _, rfl⟩
  · cases h
theorem et_strPair {T : List (Addr × Str)} {W : Wld T} {K : PySem.W.Frag} {env : Env'} {i : Nat} {x : D} (he : env[i]? = some (.dat x)) (hx : pl x = true) :
    ET W (tOr (tNot (tB (tCB (rIsi K) (tCons (tVar i) (tCons (tC (.ty "tuple")) tNil))))) (tOr (tTest (tOp (rNeD K) (tCB (fun xs H Q => ∃ p ys, xs = [V.ref p] ∧ (SqL K H p ys ∨ SqT K H p ys) ∧ Q (V.int ys.length) H) (tCons (tVar i) tNil)) (tC (.int 2))))
      (tNot (tB (tCB (rIsi K) (tCons (tOp (rIx K) (tVar i) (tC (.int 0))) (tCons (tC (.ty "str")) tNil))))))) env (!strPair x) := by
  cases hT : isT x with
  | false =>
    refine (et_or (b := false) (et_not (et_B (ed_CB (ea_cons (ed_var he) (ea_cons ed_raw ea_nil)) (rdl_isT hx)))) fun h => by rw [hT] at h; cases h).eq ?_
    rw [hT]
    cases x <;> first | rfl | cases hT
  | true =>
    obtain ⟨es, rfl⟩ := isT_ex hT
    obtain ⟨hl, hp⟩ := pl_tup hx
    by_cases h2 : es.length = 2
    · match es, h2 with
      | [a, b], _ =>
        refine (et_or (et_not (et_B (ed_CB (ea_cons (ed_var he) (ea_cons ed_raw ea_nil)) (rdl_isT hx)))) fun h => et_or (et_B (ed_op (ed_CB (ea_cons (ed_var he) ea_nil) rdl_lenT) ed_int rd_neI)) fun h => et_not (et_B (ed_CB (ea_cons (ed_op (ed_var he) ed_int (rd_ixT (i := 0) rfl)) (ea_cons ed_raw ea_nil)) (rdl_isS (hp a (by simp)))))).eq ?_
        cases a <;> rfl
    · refine (et_or (et_not (et_B (ed_CB (ea_cons (ed_var he) (ea_cons ed_raw ea_nil)) (rdl_isT hx)))) fun h => et_or (b := false) (et_B (ed_op (ed_CB (ea_cons (ed_var he) ea_nil) rdl_lenT) ed_int rd_neI)) fun h => ?_).eq ?_
      · simp at h
        omega
      · have hd : decide (((es.length : Nat) : Int) = 2) = false := decide_eq_false (by omega)
        have hn : strPair (.tup es) = false := by
          match es, h2 with
          | [], _ => rfl
          | [_], _ => simp [strPair]
          | [_, _], h => exact absurd rfl h
          | _ :: _ :: _ :: _, _ => simp [strPair]
        rw [hd, hn]
        simp
theorem nd_is_laying_of : (["counts", "banks", "thing", "rows", "columns", "bank"] : List PySem.Str).Nodup := by decide +kernel
theorem ok_is_laying_of (F : Df K mg "is_laying_of" (top 18) ["counts", "banks", "thing"] cdv) (B : Bn mg) (c_is_between : Cal P w K mg base 2 "is_between" (SpD T fBtw) []) (c_shape_of : Cal P w K mg base 1 "shape_of" (SpD T fShape) []) : Cal P w K mg base (2 + 1) "is_laying_of" (SpD T fIsLay) [] := by
  have nd := nd_is_laying_of
  refine calD (N := ["counts", "banks", "thing", "rows", "columns", "bank"]) F (by decide +kernel) ?len (fun a A outer s H E hr => ⟨_, (pss_cons (ps_if (PW.pt (pw_or (pt_not (pt_val (pe_callB (kisi K) rfl (by exact B.isinstance) (by decide +kernel) (pa_cons (pv 2) (pa_cons (pe_bltn (v := .ty "tuple") rfl (by exact B.tuple) (by decide +kernel) rfl) pa_nil))))) (pw_or (pt_cmpR (kne K hr.units) (pe_callB (klen K) rfl (by exact B.len) (by decide +kernel) (pa_cons (pv 2) pa_nil)) pe_int (nomark _)) (pw_or1 (pt_not (pt_val (pe_callB (kisi K) rfl (by exact B.isinstance) (by decide +kernel) (pa_cons (pe_ix (kix K) (pv 2) pe_int (fun _ _ => rfl)) (pa_cons (pe_bltn (v := .ty "str") rfl (by exact B.str) (by decide +kernel) rfl) pa_nil))))))))) (pss_one (ps_ret pe_bl)) pss_nil)
    (pss_cons (ps_if (PW.pt (pw_or (pt_cmpR op_eq (pe_ix (kix K) (pv 2) pe_int (fun _ _ => rfl)) pe_str (nomark _)) (pw_or1 (pt_cmpR op_eq (pe_ix (kix K) (pv 2) pe_int (fun _ _ => rfl)) pe_str (nomark _))))) (pss_one (ps_ret (pe_c c_is_between hr (by omega) rfl (pa_cons (pe_ix (kix K) (pv 2) pe_int (fun _ _ => rfl)) (pa_cons pe_int (pa_cons (pe_cI rfl (by exact B.cMOST_STEP)) pa_nil)))))) pss_nil)
    (pss_cons (ps_asg (pe_c c_shape_of hr (by omega) rfl (pa_cons (pv 0) pa_nil)) (pg_tup rfl (pgs_cons (pg_name (i := 3) nd rfl (Or.inl rfl)) (pgs_cons (pg_name (i := 4) nd rfl (Or.inl rfl)) pgs_nil))))
    (pss_cons (ps_if (PW.pt (pw_or (pt_cmpR op_ne (pe_ix (kix K) (pv 2) pe_int (fun _ _ => rfl)) pe_str (nomark _)) (pw_or (pt_not (pt_val (pe_callB (kisi K) rfl (by exact B.isinstance) (by decide +kernel) (pa_cons (pe_ix (kix K) (pv 2) pe_int (fun _ _ => rfl)) (pa_cons (pe_bltn (v := .ty "tuple") rfl (by exact B.tuple) (by decide +kernel) rfl) pa_nil))))) (pw_or1 (pt_cmpR (kne K hr.units) (pe_callB (klen K) rfl (by exact B.len) (by decide +kernel) (pa_cons (pe_ix (kix K) (pv 2) pe_int (fun _ _ => rfl)) pa_nil)) (pe_op op_mulW (pv 3) (pv 4)) (nomark _)))))) (pss_one (ps_ret pe_bl)) pss_nil)
    (pss_one (ps_ret (pe_callB (kall K rfl) rfl (by exact B.all) (by decide +kernel) (pa_cons (pe_lc rfl nd (kpi_tup K (pe_ix (kix K) (pv 2) pe_int (fun _ _ => rfl))) (blkOk_by (own := [("bank", 5)]) (by rfl)) (fun _ _ _ _ _ => (pg_name (i := 5) nd rfl (Or.inl rfl))) (fun _ _ _ _ _ => pts_nil) (fun _ _ _ _ _ => (pe_c c_is_between hr (by omega) rfl (pa_cons (pv 5) (pa_cons pe_int (pa_cons (pe_op op_sub (pv 1) pe_int) pa_nil)))))) pa_nil)))))))), ?rd⟩)
  case len => rintro ds d ⟨cs, m, x, rfl, _, _, rfl⟩; rfl
  case rd =>
    rintro ds d ⟨cs, m, x, rfl, hc, hx, rfl⟩
    refine tr_when (et_strPair rfl hx) (fun h => tr_ret ed_bl ?_) (fun h => ?_)
    · show D.bl false = .bl (isLay cs m x)
      have h : strPair x = false := by simpa using h
      unfold isLay
      split
      · cases h
      · rfl
    · obtain ⟨s, y, rfl⟩ := strPair_ex (by simpa using h)
      obtain ⟨hl, hp⟩ := pl_tup hx
      have hy : pl y = true := hp y (by simp)
      have is : ∀ z : Str, ET (W0 T) (tTest (tOp rEq (tOp (rIx K) (tVar 2) (tC (V.int 0))) (tC (V.str z)))) (env0 [dI cs, .int m, .tup [.str s, y]] 3) (decide (s = z)) := fun z => et_B (ed_op (ed_op (ed_var rfl) ed_int (rd_ixT (i := 0) rfl)) ed_str rd_eqS)
      refine tr_when (et_or (is _) fun _ => is _) (fun h => ?_) (fun h => ?_)
      · have hs : s = "padded" ∨ s = "turned" := by simpa using h
        refine tr_ret (ed_call (ea_cons (ed_op (ed_var rfl) ed_int (rd_ixT (i := 1) rfl)) (ea_cons ed_int (ea_cons ed_int ea_nil))) ⟨y, 0, 31, rfl, hy, rfl⟩) ?_
        show D.bl (btw y 0 31) = .bl (isLay cs m (.tup [.str s, y]))
        rw [isLay_eq, if_pos hs]
      · have hs : ¬ (s = "padded" ∨ s = "turned") := by simpa using h
        refine tr_tg (ed_call (ea_cons (ed_var rfl) ea_nil) ⟨cs, rfl, hc, rfl⟩) tg_tup2 ?_
        have e0 : isLay cs m (.tup [.str s, y]) = if s = "listed" then lisOk cs m y else false := by rw [isLay_eq, if_neg hs]
        by_cases hl : s = "listed"
        · subst hl
          rw [if_pos rfl] at e0
          cases hT : isT y with
          | false =>
            refine tr_when (et_or (b := true) (et_test (ed_op (ed_op (ed_var rfl) ed_int (rd_ixT (i := 0) rfl)) ed_str rd_neS)) fun h => (et_or (b := false) (et_not (et_B (ed_CB (ea_cons (ed_op (ed_var rfl) ed_int (rd_ixT (i := 1) rfl)) (ea_cons ed_raw ea_nil)) (rdl_isT hy)))) fun h => by rw [hT] at h; cases h).eq (by rw [hT]; rfl)) (fun _ => tr_ret ed_bl ?_) (fun h => by simp at h)
            show D.bl false = .bl (isLay cs m (.tup [.str "listed", y]))
            rw [e0]
            cases y <;> first | rfl | cases hT
          | true =>
            obtain ⟨es, rfl⟩ := isT_ex hT
            obtain ⟨hl1, hp1⟩ := pl_tup hy
            refine tr_when (et_or (et_test (ed_op (ed_op (ed_var rfl) ed_int (rd_ixT (i := 0) rfl)) ed_str rd_neS)) fun h => et_or (et_not (et_B (ed_CB (ea_cons (ed_op (ed_var rfl) ed_int (rd_ixT (i := 1) rfl)) (ea_cons ed_raw ea_nil)) (rdl_isT hy)))) fun h => et_B (ed_op (ed_CB (ea_cons (ed_op (ed_var rfl) ed_int (rd_ixT (i := 1) rfl)) ea_nil) rdl_lenT) (ed_op (ed_var rfl) (ed_var rfl) (rd_mulB (by have := hc.b; omega) (by have := hc.b; omega))) rd_neI)) (fun h => tr_ret ed_bl ?_) (fun h => ?_)
            · show D.bl false = .bl (isLay cs m (.tup [.str "listed", .tup es]))
              have h : ¬ ((es.length : Nat) : Int) = rowsF cs * colsF cs := by simpa [isT] using h
              rw [e0, lisOk, decide_eq_false h]; rfl
            · have h : ((es.length : Nat) : Int) = rowsF cs * colsF cs := by simpa [isT] using h
              refine tr_ret (ed_CB (ea_cons (ed_map1 es id (fun e => .bl (btw e 0 (m - 1))) (src_tup (by rw [List.map_id]; exact ed_op (ed_var rfl) ed_int (rd_ixT (i := 1) rfl))) (by omega) fun e he => ed_call (ea_cons (ed_var rfl) (ea_cons ed_int (ea_cons (ed_op (ed_var rfl) ed_int rd_sub) ea_nil))) ⟨e, _, _, rfl, hp1 e he, rfl⟩) ea_nil) (by
                have e2 : (es.map fun e => D.bl (btw e 0 (m - 1))) = (es.map fun e => btw e 0 (m - 1)).map D.bl := by rw [List.map_map]; rfl
                rw [e2]
                exact rdl_all)) ?_
              show D.bl _ = .bl (isLay cs m (.tup [.str "listed", .tup es]))
              rw [e0, lisOk, decide_eq_true h, Bool.true_and, List.all_map]; rfl
        · rw [if_neg hl] at e0
          refine tr_when (et_or (b := false) (et_test (ed_op (ed_op (ed_var rfl) ed_int (rd_ixT (i := 0) rfl)) ed_str rd_neS)) fun h => by simp [hl] at h) (fun _ => tr_ret ed_bl ?_) (fun h => by simp [hl] at h)
          show D.bl false = .bl (isLay cs m (.tup [.str s, y]))
          rw [e0]
def fNeedL (ec : Ec) : List D → Rs → Prop := fun ds r => ∃ cs m x, ds = [dI cs, .int m, x] ∧ CsOk cs ∧ pl x = true ∧ r = if isLay cs m x then .ret .non else .exc ec.BadLaying []
theorem nd_need_laying : (["counts", "banks", "laying"] : List PySem.Str).Nodup := by decide +kernel
theorem ok_need_laying (F : Df K mg "need_laying" (top 19) ["counts", "banks", "laying"] cdv) (B : Bn mg) (C : EcOk K mg ec) (c_is_laying_of : Cal P w K mg base 3 "is_laying_of" (SpD T fIsLay) []) : CalX P w K mg base (3 + 1) "need_laying" (SpR T (fNeedL ec)) := by
  have nd := nd_need_laying
  refine calX (N := ["counts", "banks", "laying"]) F (by decide +kernel) ?len (fun a A outer s H E hr => ⟨_, (pss_one (ps_if (pt_not (pt_val (pe_c c_is_laying_of hr (by omega) rfl (pa_cons (pv 0) (pa_cons (pv 1) (pa_cons (pv 2) pa_nil)))))) (pss_one (ps_rz C.BadLaying rfl (takes_of rfl rfl rfl rfl) rfl)) pss_nil)), ?rd⟩)
  case len => rintro ds d ⟨cs, m, x, rfl, _, _, rfl⟩; rfl
  case rd =>
    rintro ds r ⟨cs, m, x, rfl, hc, hx, rfl⟩
    refine tr_if (et_not (et_B (ed_call (ea_cons (ed_var rfl) (ea_cons (ed_var rfl) (ea_cons (ed_var rfl) ea_nil))) ⟨cs, m, x, rfl, hc, hx, rfl⟩))) (fun h2 => tr_raise ?_) (fun h2 => tr_next ?_)
    · show (if isLay cs m x then Rs.ret .non else .exc ec.BadLaying []) = _
      have : isLay cs m x = false := by simpa using h2
      rw [this]; rfl
    · show (if isLay cs m x then Rs.ret .non else .exc ec.BadLaying []) = _
      have : isLay cs m x = true := by simpa using h2
      rw [this]; rfl


end
end K62
set_option Elab.async false
set_option linter.all false
set_option maxRecDepth 100000
set_option maxHeartbeats 4000000
/-! The package's defs: banks of cells, lots, costs. -/
namespace K62
open PySem PySem.Spec PyProof.Rows L2 LamX C8 Fx
section
variable {P : Program} {w : World} {K : PySem.W.Frag} {mg : Str → Option Value} {base : Heap} {T : List (Addr × Str)} {cdv : Value} {c0 P0 : Addr} {ec : Ec}
def InC (cs : List Int) (p : Int × Int) : Prop := 0 ≤ p.1 ∧ p.1 < rowsF cs ∧ 0 ≤ p.2 ∧ p.2 < colsF cs
def bankF (cs : List Int) (m : Int) (way : Way) (p : Int × Int) : Int := match way with
  | .lis ns => ns.getD (p.1 * colsF cs + p.2).toNat 0
  | .pad n => (p.1 * (colsF cs + n) + p.2) % m
  | .tur n => (p.1 * colsF cs + (p.2 + n * p.1) % colsF cs) % m
abbrev dP (p : Int × Int) : D := dI [p.1, p.2]
theorem natAbs_le {x : Int} {n : Nat} (h0 : 0 ≤ x) (h : x < n) : x.natAbs < n := by omega
theorem InC.ix {cs : List Int} {p : Int × Int} (h : InC cs p) : 0 ≤ p.1 * colsF cs + p.2 ∧ p.1 * colsF cs + p.2 < rowsF cs * colsF cs := by
  obtain ⟨h1, h2, h3, h4⟩ := h
  have hc : 0 ≤ colsF cs := by omega
  have := Int.mul_nonneg h1 hc
  have e := Int.mul_le_mul_of_nonneg_right (show p.1 + 1 ≤ rowsF cs by omega) hc
  rw [Int.add_mul, Int.one_mul] at e
  omega
def fBank : List D → D → Prop := fun ds d => ∃ cs m way p, ds = [dI cs, .int m, Way.d way, dP p] ∧ CsOk cs ∧ 1 ≤ m ∧ m ≤ 32 ∧ way.Ok cs m ∧ InC cs p ∧ d = .int (bankF cs m way p)
theorem nd_bank_at : (["counts", "banks", "laying", "cell", "columns", "y", "x"] : List PySem.Str).Nodup := by decide +kernel
theorem ok_bank_at (F : Df K mg "bank_at" (top 20) ["counts", "banks", "laying", "cell"] cdv) (B : Bn mg) (c_shape_of : Cal P w K mg base 1 "shape_of" (SpD T fShape) []) : Cal P w K mg base (2 + 1) "bank_at" (SpD T fBank) [] := by
  have nd := nd_bank_at
  refine calD (N := ["counts", "banks", "laying", "cell", "columns", "y", "x"]) F (by decide +kernel) ?len (fun a A outer s H E hr => ⟨_, (pss_cons (ps_set (i := 4) nd rfl (Or.inl rfl) (pe_ix (kix K) (pe_c c_shape_of hr (by omega) rfl (pa_cons (pv 0) pa_nil)) pe_int (fun _ _ => rfl)))
    (pss_cons (ps_asg (pv 3) (pg_tup rfl (pgs_cons (pg_name (i := 5) nd rfl (Or.inl rfl)) (pgs_cons (pg_name (i := 6) nd rfl (Or.inl rfl)) pgs_nil))))
    (pss_cons (ps_if (pt_cmpR op_eq (pe_ix (kix K) (pv 2) pe_int (fun _ _ => rfl)) pe_str (nomark _)) (pss_one (ps_ret (pe_ix (kix K) (pe_ix (kix K) (pv 2) pe_int (fun _ _ => rfl)) (pe_op op_add (pe_op op_mulW (pv 5) (pv 4)) (pv 6)) (fun _ _ => rfl)))) pss_nil)
    (pss_cons (ps_if (pt_cmpR op_eq (pe_ix (kix K) (pv 2) pe_int (fun _ _ => rfl)) pe_str (nomark _)) (pss_one (ps_ret (pe_op op_mod (pe_op op_add (pe_op op_mulW (pv 5) (pe_op op_add (pv 4) (pe_ix (kix K) (pv 2) pe_int (fun _ _ => rfl)))) (pv 6)) (pv 1)))) pss_nil)
    (pss_one (ps_ret (pe_op op_mod (pe_op op_add (pe_op op_mulW (pv 5) (pv 4)) (pe_op op_mod (pe_op op_add (pv 6) (pe_op op_mulW (pe_ix (kix K) (pv 2) pe_int (fun _ _ => rfl)) (pv 5))) (pv 4))) (pv 1)))))))), ?rd⟩)
  case len => rintro ds d ⟨cs, m, way, p, rfl, _, _, _, _, _, rfl⟩; rfl
  case rd =>
    rintro ds d ⟨cs, m, way, p, rfl, hc, hm1, hm2, hw, hp, rfl⟩
    have hb := hc.b
    have hix := hp.ix
    refine tr_set (ed_op (ed_call (ea_cons (ed_var rfl) ea_nil) ⟨cs, rfl, hc, rfl⟩) ed_int (rd_ixT (i := 1) rfl)) ?_
    refine tr_tg (ed_var rfl) tg_tup2 ?_
    have hp' := hp
    obtain ⟨h1, h2, h3, h4⟩ := hp'
    cases way with
    | lis ns =>
      obtain ⟨hl, hns⟩ := hw
      refine tr_when (et_test (ed_op (ed_op (ed_var rfl) ed_int (rd_ixT (i := 0) rfl)) ed_str rd_eqS)) (fun _ => ?_) (fun h => absurd h (by decide +kernel))
      obtain ⟨k, hk⟩ := Int.eq_ofNat_of_zero_le hix.1
      have hkl : k < ns.length := by omega
      refine tr_ret (ed_op (ed_op (ed_var rfl) ed_int (rd_ixT (i := 1) rfl)) ((ed_op (ed_op (ed_var rfl) (ed_var rfl) (rd_mulB (by omega) (by omega))) (ed_var rfl) rd_add).eq (d' := .int (k : Nat)) (by rw [hk])) (rd_ixT (i := k) (d := .int ns[k]) (by rw [List.getElem?_map, List.getElem?_eq_getElem hkl]; rfl))) ?_
      show D.int ns[k] = .int (ns.getD (p.1 * colsF cs + p.2).toNat 0)
      rw [hk]
      simp [List.getD_eq_getElem?_getD, List.getElem?_eq_getElem hkl]
    | pad n =>
      obtain ⟨hn1, hn2⟩ := hw
      refine tr_when (et_test (ed_op (ed_op (ed_var rfl) ed_int (rd_ixT (i := 0) rfl)) ed_str rd_eqS)) (fun h => absurd h (by decide +kernel)) (fun _ => ?_)
      refine tr_when (et_test (ed_op (ed_op (ed_var rfl) ed_int (rd_ixT (i := 0) rfl)) ed_str rd_eqS)) (fun _ => ?_) (fun h => absurd h (by decide +kernel))
      exact tr_ret (ed_op (ed_op (ed_op (ed_var rfl) (ed_op (ed_var rfl) (ed_op (ed_var rfl) ed_int (rd_ixT (i := 1) rfl)) rd_add) (rd_mulB (by omega) (by omega))) (ed_var rfl) rd_add) (ed_var rfl) (rd_mod (by omega))) rfl
    | tur n =>
      obtain ⟨hn1, hn2⟩ := hw
      refine tr_when (et_test (ed_op (ed_op (ed_var rfl) ed_int (rd_ixT (i := 0) rfl)) ed_str rd_eqS)) (fun h => absurd h (by decide +kernel)) (fun _ => ?_)
      refine tr_when (et_test (ed_op (ed_op (ed_var rfl) ed_int (rd_ixT (i := 0) rfl)) ed_str rd_eqS)) (fun h => absurd h (by decide +kernel)) (fun _ => ?_)
      exact tr_ret (ed_op (ed_op (ed_op (ed_var rfl) (ed_var rfl) (rd_mulB (by omega) (by omega))) (ed_op (ed_op (ed_var rfl) (ed_op (ed_op (ed_var rfl) ed_int (rd_ixT (i := 1) rfl)) (ed_var rfl) (rd_mulB (by omega) (by omega))) rd_add) (ed_var rfl) (rd_mod (by omega))) rd_add) (ed_var rfl) (rd_mod (by omega))) rfl
def cellOf : D → Int × Int
  | .tup [.int a, .int b] => (a, b)
  | _ => (0, 0)
def ascC (ps : List (Int × Int)) : Bool := (ps.zip (ps.drop 1)).all fun q => HT.lexLt [q.1.1, q.1.2] [q.2.1, q.2.2]
def isLot (cs : List Int) (x : D) : Bool := match x with
  | .tup es => es.all (isCell cs) && ascC (es.map cellOf)
  | _ => false
theorem btw_ex {x : D} {lo hi : Int} (h : btw x lo hi = true) : ∃ i, x = .int i ∧ lo ≤ i ∧ i ≤ hi := by
  cases x <;> first | exact ⟨_, rfl, by simpa [btw] using h⟩ | cases h
theorem isCell_ex {cs : List Int} {x : D} (h : isCell cs x = true) : ∃ p, x = dP p ∧ InC cs p ∧ cellOf x = p := by
  unfold isCell at h
  split at h
  · rw [Bool.and_eq_true] at h
    obtain ⟨i, rfl, h1, h2⟩ := btw_ex h.1
    obtain ⟨j, rfl, h3, h4⟩ := btw_ex h.2
    exact ⟨(i, j), rfl, ⟨h1, by show i < _; omega, h3, by show j < _; omega⟩, rfl⟩
  · cases h
theorem cells_ex {cs : List Int} : ∀ {es : List D}, es.all (isCell cs) = true → ∃ ps : List (Int × Int), es = ps.map dP ∧ (∀ p ∈ ps, InC cs p) ∧ es.map cellOf = ps
  | [], _ => ⟨[], rfl, fun p h => (by cases h), rfl⟩
  | e :: es, h => by
    rw [List.all_cons, Bool.and_eq_true] at h
    obtain ⟨p, rfl, h1, h2⟩ := isCell_ex h.1
    obtain ⟨ps, rfl, h3, h4⟩ := cells_ex h.2
    exact ⟨p :: ps, rfl, fun q hq => (List.mem_cons.mp hq).elim (fun z => z ▸ h1) (h3 q), by rw [List.map_cons, h4]; rfl⟩
theorem cutD_tail (xs : List D) : Fx.cutD xs (some 1) none = xs.drop 1 := by
  have e : HT.sIx xs.length 0 (some 1) = min 1 xs.length := HT.sIx_nat _ _ 1
  unfold Fx.cutD
  rw [HT.sIx_none, e, List.take_of_length_le (by rw [List.length_drop]; omega)]
  cases xs with
  | nil => rfl
  | cons x r => rw [show min 1 (x :: r).length = 1 from by simp]
def fIsLot : List D → D → Prop := fun ds d => ∃ cs x, ds = [dI cs, x] ∧ CsOk cs ∧ pl x = true ∧ d = .bl (isLot cs x)
theorem zip_pairs (ps : List (Int × Int)) : List.zipWith (fun x y => D.tup [x, y]) (ps.map dP) ((ps.map dP).drop 1) = (ps.zip (ps.drop 1)).map fun q => .tup [dP q.1, dP q.2] := by
  rw [← List.map_drop, List.zipWith_map, List.zip, List.map_zipWith]
theorem nd_is_lot_of : (["counts", "thing", "cell", "one", "other"] : List PySem.Str).Nodup := by decide +kernel
theorem ok_is_lot_of (F : Df K mg "is_lot_of" (top 21) ["counts", "thing"] cdv) (B : Bn mg) (c_is_cell_of : Cal P w K mg base 3 "is_cell_of" (SpD T fIsCell) []) : Cal P w K mg base (3 + 1) "is_lot_of" (SpD T fIsLot) [] := by
  have nd := nd_is_lot_of
  refine calD (N := ["counts", "thing", "cell", "one", "other"]) F (by decide +kernel) ?len (fun a A outer s H E hr => ⟨_, (pss_cons (ps_if (PW.pt (pw_or (pt_not (pt_val (pe_callB (kisi K) rfl (by exact B.isinstance) (by decide +kernel) (pa_cons (pv 1) (pa_cons (pe_bltn (v := .ty "tuple") rfl (by exact B.tuple) (by decide +kernel) rfl) pa_nil))))) (pw_or1 (pt_not (pt_val (pe_callB (kall K rfl) rfl (by exact B.all) (by decide +kernel) (pa_cons (pe_lc rfl nd (kpi_tup K (pv 1)) (blkOk_by (own := [("cell", 2)]) (by rfl)) (fun _ _ _ _ _ => (pg_name (i := 2) nd rfl (Or.inl rfl))) (fun _ _ _ _ _ => pts_nil) (fun _ _ _ _ _ => (pe_c c_is_cell_of hr (by omega) rfl (pa_cons (pv 0) (pa_cons (pv 2) pa_nil))))) pa_nil))))))) (pss_one (ps_ret pe_bl)) pss_nil)
    (pss_one (ps_ret (pe_callB (kall K rfl) rfl (by exact B.all) (by decide +kernel) (pa_cons (pe_lc (g := gTup K 2 (gCons (gName 3) (gCons (gName 4) gNil))) rfl nd (kpi_zip K rfl (by exact B.zip) (pa_cons (pv 1) (pa_cons (pe_slice (kslA K) (pv 1) (po_some pe_int) po_none) pa_nil))) (blkOk_by (own := [("one", 3), ("other", 4)]) (by rfl)) (fun _ _ _ _ _ => (by exact pg_tup rfl (pgs_cons (pg_name (i := 3) nd rfl (Or.inl rfl)) (pgs_cons (pg_name (i := 4) nd rfl (Or.inl rfl)) pgs_nil)))) (fun _ _ _ _ _ => pts_nil) (fun _ _ _ _ _ => (pe_cmpR (kltT K hr.units) (pv 3) (pv 4) (nomark _)))) pa_nil))))), ?rd⟩)
  case len => rintro ds d ⟨cs, x, rfl, _, _, rfl⟩; rfl
  case rd =>
    rintro ds d ⟨cs, x, rfl, hc, hx, rfl⟩
    cases hT : isT x with
    | false =>
      refine tr_when (et_or (b := false) (et_not (et_B (ed_CB (ea_cons (ed_var rfl) (ea_cons ed_raw ea_nil)) (rdl_isT hx)))) fun h => by rw [hT] at h; cases h) (fun _ => tr_ret ed_bl ?_) (fun h => by rw [hT] at h; cases h)
      show D.bl false = .bl (isLot cs x)
      cases x <;> first | rfl | cases hT
    | true =>
      obtain ⟨es, rfl⟩ := isT_ex hT
      obtain ⟨hl, hp⟩ := pl_tup hx
      have e2 : (es.map fun e => D.bl (isCell cs e)) = (es.map fun e => isCell cs e).map D.bl := by rw [List.map_map]; rfl
      refine tr_when (et_or (et_not (et_B (ed_CB (ea_cons (ed_var rfl) (ea_cons ed_raw ea_nil)) (rdl_isT hx)))) fun h => et_not (et_B (ed_CB (ea_cons (ed_map1 es id (fun e => .bl (isCell cs e)) (src_tup (by rw [List.map_id]; exact ed_var rfl)) (by omega) fun e he => ed_call (ea_cons (ed_var rfl) (ea_cons (ed_var rfl) ea_nil)) ⟨cs, e, rfl, hc, hp e he, rfl⟩) ea_nil) (by
          rw [e2]
          exact rdl_all)))) (fun h => tr_ret ed_bl ?_) (fun h => ?_)
      · show D.bl false = .bl (es.all (isCell cs) && ascC (es.map cellOf))
        have h : es.all (isCell cs) = false := by simpa [isT] using h
        rw [h]; rfl
      · have h : es.all (isCell cs) = true := by simpa [isT] using h
        show Tr _ _ _ _ _
        obtain ⟨ps, rfl, hps, he⟩ := cells_ex h
        refine tr_ret (ed_CB (ea_cons (ed_map2 (ps.zip (ps.drop 1)) (fun q => dP q.1) (fun q => dP q.2) (fun q => .bl (HT.lexLt [q.1.1, q.1.2] [q.2.1, q.2.2])) (src_eq (src_zipT (ea_cons (ed_var rfl) (ea_cons (ed_slT (ed_var rfl) (eo_some ed_int) eo_none) ea_nil))) (by rw [cutD_tail]; exact zip_pairs ps)) (by
          rw [List.length_zip, List.length_drop]
          rw [List.length_map] at hl
          omega) (by decide) fun q hq => ed_op (ed_var rfl) (ed_var rfl) rd_ltT) ea_nil) (by
          have e3 : ((ps.zip (ps.drop 1)).map fun q => D.bl (HT.lexLt [q.1.1, q.1.2] [q.2.1, q.2.2])) = ((ps.zip (ps.drop 1)).map fun q => HT.lexLt [q.1.1, q.1.2] [q.2.1, q.2.2]).map D.bl := by rw [List.map_map]; rfl
          rw [e3]
          exact rdl_all)) ?_
        show D.bl _ = .bl ((ps.map dP).all (isCell cs) && ascC ((ps.map dP).map cellOf))
        rw [h, he, Bool.true_and, List.all_map]
        rfl
def fNeedLot (ec : Ec) : List D → Rs → Prop := fun ds r => ∃ cs x, ds = [dI cs, x] ∧ CsOk cs ∧ pl x = true ∧ r = if isLot cs x then .ret .non else .exc ec.BadLot []
theorem nd_need_lot : (["counts", "lot"] : List PySem.Str).Nodup := by decide +kernel
theorem ok_need_lot (F : Df K mg "need_lot" (top 22) ["counts", "lot"] cdv) (B : Bn mg) (C : EcOk K mg ec) (c_is_lot_of : Cal P w K mg base 4 "is_lot_of" (SpD T fIsLot) []) : CalX P w K mg base (4 + 1) "need_lot" (SpR T (fNeedLot ec)) := by
  have nd := nd_need_lot
  refine calX (N := ["counts", "lot"]) F (by decide +kernel) ?len (fun a A outer s H E hr => ⟨_, (pss_one (ps_if (pt_not (pt_val (pe_c c_is_lot_of hr (by omega) rfl (pa_cons (pv 0) (pa_cons (pv 1) pa_nil))))) (pss_one (ps_rz C.BadLot rfl (takes_of rfl rfl rfl rfl) rfl)) pss_nil)), ?rd⟩)
  case len => rintro ds d ⟨cs, x, rfl, _, _, rfl⟩; rfl
  case rd =>
    rintro ds r ⟨cs, x, rfl, hc, hx, rfl⟩
    refine tr_if (et_not (et_B (ed_call (ea_cons (ed_var rfl) (ea_cons (ed_var rfl) ea_nil)) ⟨cs, x, rfl, hc, hx, rfl⟩))) (fun h2 => tr_raise ?_) (fun h2 => tr_next ?_)
    · show (if isLot cs x then Rs.ret .non else .exc ec.BadLot []) = _
      have : isLot cs x = false := by simpa using h2
      rw [this]; rfl
    · show (if isLot cs x then Rs.ret .non else .exc ec.BadLot []) = _
      have : isLot cs x = true := by simpa using h2
      rw [this]; rfl


end
end K62
set_option Elab.async false
set_option linter.all false
set_option maxRecDepth 100000
set_option maxHeartbeats 4000000
/-! The package's defs: the cost of a lot, the three that are asked. -/
namespace K62
open PySem PySem.Spec PyProof.Rows L2 LamX C8 Fx
section
variable {P : Program} {w : World} {K : PySem.W.Frag} {mg : Str → Option Value} {base : Heap} {T : List (Addr × Str)} {cdv : Value} {c0 P0 : Addr} {ec : Ec}
/-! ### counting -/
def embC (p : Int × Int) : Key × D := (.inl p.1, .int p.2)
def putC (kvs : List (Int × Int)) (b v : Int) : List (Int × Int) := if (kvs.any fun p => decide (p.1 = b)) then kvs.map (fun p => if p.1 = b then (p.1, v) else p) else kvs ++ [(b, v)]
def getC (kvs : List (Int × Int)) (b : Int) : Int := ((kvs.find? fun p => decide (p.1 = b)).map (·.2)).getD 0
theorem key_eq {a b : Int} : decide ((Sum.inl a : Key) = .inl b) = decide (a = b) := decide_eq_decide.mpr ⟨fun h => by injection h, fun h => by rw [h]⟩
theorem putD_emb (kvs : List (Int × Int)) (b v : Int) : putD (kvs.map embC) (.inl b) (.int v) = (putC kvs b v).map embC := by
  unfold putD putC
  have e : ((kvs.map embC).any fun kv => decide (kv.1 = .inl b)) = kvs.any fun p => decide (p.1 = b) := by
    rw [List.any_map]
    congr 1
    funext p
    exact key_eq
  rw [e]
  split
  · rw [List.map_map, List.map_map]
    apply List.map_congr_left
    intro p _
    show (if (embC p).1 = .inl b then ((embC p).1, D.int v) else embC p) = embC (if p.1 = b then (p.1, v) else p)
    by_cases h : p.1 = b
    · rw [if_pos h, if_pos (show (embC p).1 = .inl b by show (Sum.inl p.1 : Key) = _; rw [h])]; rfl
    · rw [if_neg h, if_neg (show ¬ (embC p).1 = .inl b from fun z => h (by injection z))]
  · rw [List.map_append]; rfl
theorem lkD_emb (b : Int) : ∀ kvs : List (Int × Int), (lkD (kvs.map embC) (.inl b)).getD (.int 0) = .int (getC kvs b)
  | [] => rfl
  | p :: kvs => by
    by_cases h : p.1 = b
    · have e1 : lkD ((p :: kvs).map embC) (.inl b) = some (.int p.2) := by
        unfold lkD
        rw [List.map_cons, List.find?_cons, show decide ((embC p).1 = .inl b) = true from by rw [show (embC p).1 = Sum.inl p.1 from rfl, key_eq]; exact decide_eq_true h]
        rfl
      have e2 : getC (p :: kvs) b = p.2 := by
        unfold getC
        rw [List.find?_cons, decide_eq_true h]
        rfl
      rw [e1, e2]; rfl
    · have e1 : lkD ((p :: kvs).map embC) (.inl b) = lkD (kvs.map embC) (.inl b) := by
        unfold lkD
        rw [List.map_cons, List.find?_cons, show decide ((embC p).1 = .inl b) = false from by rw [show (embC p).1 = Sum.inl p.1 from rfl, key_eq]; exact decide_eq_false h]
      have e2 : getC (p :: kvs) b = getC kvs b := by
        unfold getC
        rw [List.find?_cons, decide_eq_false h]
      rw [e1, e2]
      exact lkD_emb b kvs
def cntC (bs : List Int) : List (Int × Int) := bs.foldl (fun kvs b => putC kvs b (getC kvs b + 1)) []
def cnt (bs : List Int) (b : Int) : Int := ((bs.filter fun x => decide (x = b)).length : Nat)
structure CInv (bs : List Int) (kvs : List (Int × Int)) : Prop where
  val : ∀ p ∈ kvs, p.2 = cnt bs p.1 ∧ p.1 ∈ bs
  has : ∀ b ∈ bs, (b, cnt bs b) ∈ kvs
  len : kvs.length ≤ bs.length
theorem cnt_snoc (bs : List Int) (b c : Int) : cnt (bs ++ [b]) c = if b = c then cnt bs c + 1 else cnt bs c := by
  unfold cnt
  rw [List.filter_append, List.length_append]
  by_cases h : b = c
  · rw [if_pos h]
    simp [h]
  · rw [if_neg h]
    simp [h]
theorem cnt_none {bs : List Int} {b : Int} (h : b ∉ bs) : cnt bs b = 0 := by
  unfold cnt
  rw [List.filter_eq_nil_iff.mpr fun x hx => by
    simp only [decide_eq_true_eq]
    intro e
    exact h (e ▸ hx)]
  rfl
theorem getC_of {bs : List Int} {kvs : List (Int × Int)} (I : CInv bs kvs) (b : Int) : getC kvs b = cnt bs b := by
  unfold getC
  cases q : kvs.find? fun p => decide (p.1 = b) with
  | none =>
    have : b ∉ bs := fun hb => by
      have := List.find?_eq_none.mp q _ (I.has b hb)
      simp at this
    rw [cnt_none this]; rfl
  | some p =>
    have h1 := List.find?_some q
    have h2 := (I.val p (List.mem_of_find?_eq_some q)).1
    have h1 : p.1 = b := of_decide_eq_true h1
    rw [← h1, ← h2]; rfl
theorem any_of {bs : List Int} {kvs : List (Int × Int)} (I : CInv bs kvs) (b : Int) : (kvs.any fun p => decide (p.1 = b)) = decide (b ∈ bs) := by
  rw [Bool.eq_iff_iff, List.any_eq_true, decide_eq_true_eq]
  refine ⟨fun ⟨p, hp, e⟩ => ?_, fun hb => ⟨_, I.has b hb, by simp⟩⟩
  have e : p.1 = b := of_decide_eq_true e
  rw [← e]
  exact (I.val p hp).2
theorem CInv.snoc {bs : List Int} {kvs : List (Int × Int)} (I : CInv bs kvs) (b : Int) : CInv (bs ++ [b]) (putC kvs b (getC kvs b + 1)) := by
  rw [getC_of I]
  unfold putC
  rw [any_of I]
  by_cases hb : b ∈ bs
  · rw [decide_eq_true hb, if_pos rfl]
    refine ⟨fun p hp => ?_, fun c hc => ?_, by rw [List.length_map, List.length_append]; exact Nat.le_add_right_of_le I.len⟩
    · obtain ⟨q, hq, rfl⟩ := List.mem_map.mp hp
      obtain ⟨h1, h2⟩ := I.val q hq
      by_cases h : q.1 = b
      · rw [if_pos h]
        refine ⟨?_, List.mem_append_left _ h2⟩
        show cnt bs b + 1 = cnt (bs ++ [b]) q.1
        rw [cnt_snoc, if_pos h.symm, h]
      · rw [if_neg h]
        refine ⟨?_, List.mem_append_left _ h2⟩
        rw [cnt_snoc, if_neg (Ne.symm h)]
        exact h1
    · rw [cnt_snoc]
      have hc : c ∈ bs := by
        rcases List.mem_append.mp hc with h | h
        · exact h
        · rw [List.mem_singleton.mp h]; exact hb
      refine List.mem_map.mpr ⟨_, I.has c hc, ?_⟩
      by_cases h : c = b
      · rw [if_pos h, if_pos h.symm, h]
      · rw [if_neg h, if_neg (Ne.symm h)]
  · rw [decide_eq_false hb, if_neg Bool.false_ne_true]
    refine ⟨fun p hp => ?_, fun c hc => ?_, by rw [List.length_append, List.length_append]; exact Nat.add_le_add_right I.len 1⟩
    · rcases List.mem_append.mp hp with h | h
      · obtain ⟨h1, h2⟩ := I.val p h
        refine ⟨?_, List.mem_append_left _ h2⟩
        rw [cnt_snoc, if_neg (fun (e : b = p.1) => hb (by rw [e]; exact h2))]
        exact h1
      · rw [List.mem_singleton.mp h]
        refine ⟨?_, List.mem_append_right _ (List.mem_singleton.mpr rfl)⟩
        show cnt bs b + 1 = _
        rw [cnt_snoc, if_pos rfl]
    · rw [cnt_snoc]
      rcases List.mem_append.mp hc with h | h
      · rw [if_neg (fun (e : b = c) => hb (by rw [e]; exact h))]
        exact List.mem_append_left _ (I.has c h)
      · have h := List.mem_singleton.mp h
        rw [if_pos h.symm, h]
        exact List.mem_append_right _ (List.mem_singleton.mpr rfl)
theorem cntC_snoc (bs : List Int) (b : Int) : cntC (bs ++ [b]) = putC (cntC bs) b (getC (cntC bs) b + 1) := by
  unfold cntC
  rw [List.foldl_append]
  rfl
theorem cInv : ∀ n (bs : List Int), CInv (bs.take n) (cntC (bs.take n))
  | 0, bs => by
    rw [List.take_zero]
    exact ⟨fun p hp => (by cases hp), fun b hb => (by cases hb), Nat.le_refl _⟩
  | n + 1, bs => by
    by_cases h : n < bs.length
    · rw [List.take_add_one, List.getElem?_eq_getElem h]
      show CInv (bs.take n ++ [bs[n]]) (cntC (bs.take n ++ [bs[n]]))
      rw [cntC_snoc]
      exact (cInv n bs).snoc _
    · rw [List.take_of_length_le (by omega)]
      have := cInv n bs
      rw [List.take_of_length_le (by omega)] at this
      exact this
theorem cInvA (bs : List Int) : CInv bs (cntC bs) := by
  have := cInv bs.length bs
  rw [List.take_length] at this
  exact this
/-- the greatest -/
def maxI (l : List Int) : Int := l.foldr max 0
theorem maxI_mem : ∀ l : List Int, (∀ x ∈ l, 0 ≤ x) → maxI l ∈ (0 : Int) :: l
  | [], _ => List.mem_cons_self
  | x :: l, h => by
    have ih := maxI_mem l fun y hy => h y (List.mem_cons_of_mem _ hy)
    show max x (maxI l) ∈ _
    rcases Int.le_total x (maxI l) with e | e
    · rw [Int.max_eq_right e]
      rcases List.mem_cons.mp ih with z | z
      · rw [z]; exact List.mem_cons_self
      · exact List.mem_cons_of_mem _ (List.mem_cons_of_mem _ z)
    · rw [Int.max_eq_left e]
      exact List.mem_cons_of_mem _ List.mem_cons_self
theorem maxI_le : ∀ l : List Int, ∀ y ∈ (0 : Int) :: l, y ≤ maxI l
  | [], y, h => by rw [List.mem_singleton.mp h]; exact Int.le_refl _
  | x :: l, y, h => by
    show y ≤ max x (maxI l)
    rcases List.mem_cons.mp h with z | z
    · exact Int.le_trans (maxI_le l y (z ▸ List.mem_cons_self)) (Int.le_max_right _ _)
    · rcases List.mem_cons.mp z with z | z
      · rw [z]; exact Int.le_max_left _ _
      · exact Int.le_trans (maxI_le l y (List.mem_cons_of_mem _ z)) (Int.le_max_right _ _)
theorem maxI_bound {l : List Int} {m : Int} (h0 : 0 ≤ m) (h : ∀ y ∈ l, y ≤ m) : maxI l ≤ m := by
  induction l with
  | nil => exact h0
  | cons x l ih => exact Int.max_le.mpr ⟨h x List.mem_cons_self, ih fun y hy => h y (List.mem_cons_of_mem _ hy)⟩
def costF (bs : List Int) : Int := maxI (bs.map (cnt bs))
theorem cnt_nonneg (bs : List Int) (b : Int) : 0 ≤ cnt bs b := Int.natCast_nonneg _
theorem cost_vals (bs : List Int) : maxI ((cntC bs).map (·.2)) = costF bs := by
  have I := cInvA bs
  apply Int.le_antisymm
  · refine maxI_bound ?_ fun y hy => ?_
    · exact maxI_le _ 0 List.mem_cons_self
    · obtain ⟨p, hp, rfl⟩ := List.mem_map.mp hy
      obtain ⟨h1, h2⟩ := I.val p hp
      rw [h1]
      exact maxI_le _ _ (List.mem_cons_of_mem _ (List.mem_map.mpr ⟨_, h2, rfl⟩))
  · refine maxI_bound ?_ fun y hy => ?_
    · exact maxI_le _ 0 List.mem_cons_self
    · obtain ⟨b, hb, rfl⟩ := List.mem_map.mp hy
      exact maxI_le _ _ (List.mem_cons_of_mem _ (List.mem_map.mpr ⟨_, I.has b hb, rfl⟩))
theorem rdl_maxI {T : List (Addr × Str)} {W : Wld T} {K : PySem.W.Frag} {l : List Int} (h : ∀ x ∈ l, 0 ≤ x) : RDL W (rMax K) [dLI (0 :: l)] (.int (maxI l)) := rdl_maxL (maxI_mem l h) (maxI_le l)
def dLot (ps : List (Int × Int)) : D := .tup (ps.map dP)
def fCost : List D → D → Prop := fun ds d => ∃ cs m way ps, ds = [dI cs, .int m, Way.d way, dLot ps] ∧ CsOk cs ∧ 1 ≤ m ∧ m ≤ 32 ∧ way.Ok cs m ∧ (∀ p ∈ ps, InC cs p) ∧ ps.length ≤ 1000 ∧ d = .int (costF (ps.map (bankF cs m way)))
theorem nd_cost_of : (["counts", "banks", "laying", "lot", "many", "cell", "bank"] : List PySem.Str).Nodup := by decide +kernel
theorem ok_cost_of (F : Df K mg "cost_of" (top 23) ["counts", "banks", "laying", "lot"] cdv) (B : Bn mg) (c_bank_at : Cal P w K mg base 3 "bank_at" (SpD T fBank) []) : Cal P w K mg base (3 + 1) "cost_of" (SpD T fCost) [] := by
  have nd := nd_cost_of
  refine calD (N := ["counts", "banks", "laying", "lot", "many", "cell", "bank"]) F (by decide +kernel) ?len (fun a A outer s H E hr => ⟨_, (pss_cons (ps_set (i := 4) nd rfl (Or.inl rfl) pe_dnewK)
    (pss_cons (ps_for PassesOwn.never rfl (kpi_tup K (pv 3)) (pg_name (i := 5) nd rfl (Or.inl rfl)) (pss_cons (ps_set (i := 6) nd rfl (Or.inl rfl) (pe_c c_bank_at hr (by omega) rfl (pa_cons (pv 0) (pa_cons (pv 1) (pa_cons (pv 2) (pa_cons (pv 5) pa_nil))))))
    (pss_one (ps_dput (hu_of hr) (pv 4) (pv 6) (pe_op op_add (pe_dget2 (hu_of hr) (pv 4) (pv 6) pe_int ⟨by rfl, by rfl, by rfl, by rfl⟩) pe_int) rfl))))
    (pss_one (ps_ret (pe_callB (kmax K rfl) rfl (by exact B.max) (by decide +kernel) (pa_cons (pe_op op_cat (pe_lst (pa_cons pe_int pa_nil)) (pe_callTy (cr_listV rfl) rfl (by exact B.list) (by decide +kernel) (pa_cons (pe_bm0 PySem.F.plainAttrs_dict PySem.F.slot_dict_values PySem.F.type_dict_values mt_vals (pv 4)) pa_nil))) pa_nil)))))), ?rd⟩)
  case len => rintro ds d ⟨cs, m, way, p, rfl, _, _, _, _, _, _, rfl⟩; rfl
  case rd =>
    rintro ds d ⟨cs, m, way, ps, rfl, hc, hm1, hm2, hw, hps, hl, rfl⟩
    refine tr_newd (by simp [env0]) ?_
    refine tr_seq (fun e2 c2 => ∃ s5 s6 : Slot, e2 = [.dat (dI cs), .dat (.int m), .dat (Way.d way), .dat (dLot ps), .md ((cntC (ps.map (bankF cs m way))).map embC), s5, s6]) (tr_for (src_tup (ed_var rfl)).n ?_) ?_
    · rintro items rfl
      refine ⟨fun i e1 c1 => ∃ s5 s6 : Slot, e1 = [.dat (dI cs), .dat (.int m), .dat (Way.d way), .dat (dLot ps), .md ((cntC ((ps.map (bankF cs m way)).take i)).map embC), s5, s6], ⟨.emp, .emp, rfl⟩, ?_, ?_⟩
      · rintro i d e1 c1 hd ⟨s5, s6, rfl⟩
        rw [List.getElem?_map] at hd
        obtain ⟨p, hp, rfl⟩ := Option.map_eq_some_iff.mp hd
        have hi : i < ps.length := (List.getElem?_eq_some_iff.mp hp).1
        refine ⟨_, tg_name, ?_⟩
        refine tr_set (ed_call (ea_cons (ed_var rfl) (ea_cons (ed_var rfl) (ea_cons (ed_var rfl) (ea_cons (ed_var rfl) ea_nil)))) ⟨cs, m, way, p, rfl, hc, hm1, hm2, hw, hps p (List.mem_of_getElem? hp), rfl⟩) ?_
        have hI := cInv i (ps.map (bankF cs m way))
        refine tr_dput1 (ky := .inl (bankF cs m way p)) (d := .int (getC (cntC ((ps.map (bankF cs m way)).take i)) (bankF cs m way p) + 1)) (i := 4) rfl ?_ (ed_op ((ed_mdget (ky := .inl (bankF cs m way p)) (i := 4) rfl (ed_var rfl) ed_int).eq (lkD_emb _ _)) ed_int rd_add) (ed_var rfl) ?_
        · rw [List.length_map]
          have := hI.len
          rw [List.length_take, List.length_map] at this
          omega
        · refine ⟨.dat (dP p), .dat (.int (bankF cs m way p)), ?_⟩
          have e : (ps.map (bankF cs m way)).take (i + 1) = (ps.map (bankF cs m way)).take i ++ [bankF cs m way p] := by
            rw [List.take_add_one, List.getElem?_map, hp]; rfl
          rw [putD_emb, ← cntC_snoc, ← e]
          rfl
      · rintro e1 c1 ⟨s5, s6, rfl⟩
        refine ⟨s5, s6, ?_⟩
        rw [List.length_map, List.take_of_length_le (by rw [List.length_map]; exact Nat.le_refl _)]
    · rintro e2 c2 ⟨s5, s6, rfl⟩
      have hv : ∀ x ∈ (cntC (ps.map (bankF cs m way))).map (·.2), 0 ≤ x := fun x hx => by
        obtain ⟨p, hp, rfl⟩ := List.mem_map.mp hx
        rw [((cInvA _).val p hp).1]
        exact cnt_nonneg _ _
      refine tr_ret (ed_CB (ea_cons ((ed_op (ed_lst (ea_cons ed_int ea_nil) (by decide)) (ed_listV (i := 4) rfl) (rd_cat ?_)).eq (d' := dLI (0 :: (cntC (ps.map (bankF cs m way))).map (·.2))) ?_) ea_nil) (rdl_maxI hv)) ?_
      · have := (cInvA (ps.map (bankF cs m way))).len
        rw [List.length_map] at this
        rw [List.length_map, List.length_map, List.length_singleton]
        omega
      · show D.lst ([D.int 0] ++ _) = D.lst _
        rw [List.map_map, List.map_cons, List.map_map]
        rfl
      · rw [cost_vals]
/-! ### what is asked -/
def intOf : D → Int
  | .int i => i
  | _ => 0
def csOf : D → List Int
  | .tup ds => ds.map intOf
  | _ => []
def wayOf : D → Way
  | .tup [.str s, y] => if s = "padded" then .pad (intOf y) else if s = "turned" then .tur (intOf y) else .lis (csOf y)
  | _ => .pad 0
def lotOf : D → List (Int × Int)
  | .tup ds => ds.map cellOf
  | _ => []
theorem ints_ex {lo hi : Int} : ∀ {ds : List D}, (ds.all fun e => btw e lo hi) = true → ds = (ds.map intOf).map .int ∧ ∀ x ∈ ds.map intOf, lo ≤ x ∧ x ≤ hi
  | [], _ => ⟨rfl, fun x h => (by cases h)⟩
  | d :: ds, h => by
    rw [List.all_cons, Bool.and_eq_true] at h
    obtain ⟨i, rfl, h1, h2⟩ := btw_ex h.1
    obtain ⟨h3, h4⟩ := ints_ex h.2
    refine ⟨by rw [List.map_cons, List.map_cons, ← h3]; rfl, fun x hx => ?_⟩
    rcases List.mem_cons.mp hx with rfl | hx
    · exact ⟨h1, h2⟩
    · exact h4 x hx
theorem okC_ex {c : D} (h : okC c = true) : CsOk (csOf c) ∧ c = dI (csOf c) := by
  unfold okC at h
  split at h
  · rename_i ds
    rw [Bool.and_eq_true, Bool.and_eq_true] at h
    obtain ⟨⟨h1, h2⟩, h3⟩ := h
    have h1 := of_decide_eq_true h1
    have h2 := of_decide_eq_true h2
    obtain ⟨h4, h5⟩ := ints_ex h3
    refine ⟨⟨?_, h5⟩, congrArg D.tup h4⟩
    show (ds.map intOf).length = 1 ∨ (ds.map intOf).length = 2
    rw [List.length_map]
    omega
  · cases h
theorem okB_ex {b : D} {lo hi : Int} (h : btw b lo hi = true) : b = .int (intOf b) ∧ lo ≤ intOf b ∧ intOf b ≤ hi := by
  obtain ⟨i, rfl, h1, h2⟩ := btw_ex h
  exact ⟨rfl, h1, h2⟩
theorem isLay_ex {cs : List Int} {m : Int} {x : D} (h : isLay cs m x = true) : x = (wayOf x).d ∧ (wayOf x).Ok cs m := by
  unfold isLay at h
  split at h
  · rename_i s y
    split at h
    · obtain ⟨i, rfl, h1, h2⟩ := btw_ex h
      rename_i hs
      rcases hs with rfl | rfl
      · exact ⟨rfl, h1, h2⟩
      · exact ⟨rfl, h1, h2⟩
    · split at h
      · rename_i hs
        subst hs
        unfold lisOk at h
        split at h
        · rename_i ds
          rw [Bool.and_eq_true] at h
          obtain ⟨h4, h5⟩ := ints_ex h.2
          have hl := of_decide_eq_true h.1
          refine ⟨?_, ?_, fun z hz => ?_⟩
          · show D.tup [.str "listed", .tup ds] = D.tup [.str "listed", dI (ds.map intOf)]
            rw [dI, ← h4]
          · show (((ds.map intOf).length : Nat) : Int) = _
            rw [List.length_map]
            exact hl
          · have := h5 z hz
            omega
        · cases h
      · cases h
  · cases h
theorem isLot_ex {cs : List Int} {x : D} (h : isLot cs x = true) : x = dLot (lotOf x) ∧ (∀ p ∈ lotOf x, InC cs p) := by
  unfold isLot at h
  split at h
  · rename_i es
    rw [Bool.and_eq_true] at h
    obtain ⟨ps, rfl, h1, h2⟩ := cells_ex h.1
    have e : lotOf (.tup (ps.map dP)) = ps := h2
    rw [e]
    exact ⟨rfl, h1⟩
  · cases h
def rLay (ec : Ec) (c b x : D) : Rs := if okC c then if btw b 1 32 then .ret (.bl (isLay (csOf c) (intOf b) x)) else .exc ec.BadBanks [] else .exc ec.BadCounts []
def rBank (ec : Ec) (c b x q : D) : Rs := if okC c then if btw b 1 32 then if isLay (csOf c) (intOf b) x then if isCell (csOf c) q then .ret (.int (bankF (csOf c) (intOf b) (wayOf x) (cellOf q))) else .exc ec.BadCell [] else .exc ec.BadLaying [] else .exc ec.BadBanks [] else .exc ec.BadCounts []
def rCost (ec : Ec) (c b x q : D) : Rs := if okC c then if btw b 1 32 then if isLay (csOf c) (intOf b) x then if isLot (csOf c) q then .ret (.int (costF ((lotOf q).map (bankF (csOf c) (intOf b) (wayOf x))))) else .exc ec.BadLot [] else .exc ec.BadLaying [] else .exc ec.BadBanks [] else .exc ec.BadCounts []
def fALay (ec : Ec) : List D → Rs → Prop := fun ds r => ∃ c b x, ds = [c, b, x] ∧ pl c = true ∧ pl b = true ∧ pl x = true ∧ r = rLay ec c b x
def fABank (ec : Ec) : List D → Rs → Prop := fun ds r => ∃ c b x q, ds = [c, b, x, q] ∧ pl c = true ∧ pl b = true ∧ pl x = true ∧ pl q = true ∧ r = rBank ec c b x q
def fACost (ec : Ec) : List D → Rs → Prop := fun ds r => ∃ c b x q, ds = [c, b, x, q] ∧ pl c = true ∧ pl b = true ∧ pl x = true ∧ pl q = true ∧ r = rCost ec c b x q
theorem ifT {α : Type} {b : Bool} {x y : α} (h : b = true) : x = if b then x else y := by rw [h]; rfl
theorem ifF {α : Type} {b : Bool} {x y : α} (h : b = false) : y = if b then x else y := by rw [h]; rfl
theorem nd_is_laying : (["counts", "banks", "thing"] : List PySem.Str).Nodup := by decide +kernel
theorem ok_is_laying (F : DfK K mg "is_laying" (top 25) ["counts", "banks", "thing"] cdv) (B : Bn mg) (C : EcOk K mg ec) (c_need_counts : CalX P w K mg base 3 "need_counts" (SpR T (fNeedC ec))) (c_need_banks : CalX P w K mg base 3 "need_banks" (SpR T (fNeedB ec))) (c_is_laying_of : Cal P w K mg base 3 "is_laying_of" (SpD T fIsLay) []) : CalXK P w K mg base (3 + 1) "is_laying" ["counts", "banks", "thing"] (SpR T (fALay ec)) := by
  have nd := nd_is_laying
  refine calXK (N := ["counts", "banks", "thing"]) F (by decide +kernel) ?len (fun a A outer s H E hr => ⟨_, (pss_cons (ps_expr (pe_cx c_need_counts hr (by omega) rfl (takes_of rfl rfl rfl rfl) (pa_cons (pv 0) pa_nil)))
    (pss_cons (ps_expr (pe_cx c_need_banks hr (by omega) rfl (takes_of rfl rfl rfl rfl) (pa_cons (pv 1) pa_nil)))
    (pss_one (ps_ret (pe_c c_is_laying_of hr (by omega) rfl (pa_cons (pv 0) (pa_cons (pv 1) (pa_cons (pv 2) pa_nil)))))))), ?rd⟩)
  case len => rintro ds d ⟨c, b, x, rfl, _, _, _, rfl⟩; rfl
  case rd =>
    rintro ds r ⟨c, b, x, rfl, hc, hb, hx, rfl⟩
    cases h1 : okC c with
    | false => exact tr_dropX (ex_callR (ea_cons (ed_var rfl) ea_nil) ⟨c, rfl, hc, ifF h1⟩) (by show rLay ec c b x = _; unfold rLay; rw [h1]; rfl)
    | true =>
      obtain ⟨hcs, ec1⟩ := okC_ex h1
      refine tr_drop (ed_callR (ea_cons (ed_var rfl) ea_nil) ⟨c, rfl, hc, ifT h1⟩) ?_
      cases h2 : btw b 1 32 with
      | false => exact tr_dropX (ex_callR (ea_cons (ed_var rfl) ea_nil) ⟨b, rfl, hb, ifF h2⟩) (by show rLay ec c b x = _; unfold rLay; rw [h1, h2]; rfl)
      | true =>
        obtain ⟨eb1, _, _⟩ := okB_ex h2
        refine tr_drop (ed_callR (ea_cons (ed_var rfl) ea_nil) ⟨b, rfl, hb, ifT h2⟩) ?_
        refine tr_ret (ed_call (ea_cons (ed_var rfl) (ea_cons (ed_var rfl) (ea_cons (ed_var rfl) ea_nil))) ⟨csOf c, intOf b, x, by rw [← ec1, ← eb1], hcs, hx, rfl⟩) ?_
        show rLay ec c b x = _
        unfold rLay
        rw [h1, h2]; rfl
theorem nd_bank_of : (["counts", "banks", "laying", "cell"] : List PySem.Str).Nodup := by decide +kernel
theorem ok_bank_of (F : DfK K mg "bank_of" (top 26) ["counts", "banks", "laying", "cell"] cdv) (B : Bn mg) (C : EcOk K mg ec) (c_need_counts : CalX P w K mg base 3 "need_counts" (SpR T (fNeedC ec))) (c_need_banks : CalX P w K mg base 3 "need_banks" (SpR T (fNeedB ec))) (c_need_laying : CalX P w K mg base 4 "need_laying" (SpR T (fNeedL ec))) (c_is_cell_of : Cal P w K mg base 3 "is_cell_of" (SpD T fIsCell) []) (c_bank_at : Cal P w K mg base 3 "bank_at" (SpD T fBank) []) : CalXK P w K mg base (4 + 1) "bank_of" ["counts", "banks", "laying", "cell"] (SpR T (fABank ec)) := by
  have nd := nd_bank_of
  refine calXK (N := ["counts", "banks", "laying", "cell"]) F (by decide +kernel) ?len (fun a A outer s H E hr => ⟨_, (pss_cons (ps_expr (pe_cx c_need_counts hr (by omega) rfl (takes_of rfl rfl rfl rfl) (pa_cons (pv 0) pa_nil)))
    (pss_cons (ps_expr (pe_cx c_need_banks hr (by omega) rfl (takes_of rfl rfl rfl rfl) (pa_cons (pv 1) pa_nil)))
    (pss_cons (ps_expr (pe_cx c_need_laying hr (by omega) rfl (takes_of rfl rfl rfl rfl) (pa_cons (pv 0) (pa_cons (pv 1) (pa_cons (pv 2) pa_nil)))))
    (pss_cons (ps_if (pt_not (pt_val (pe_c c_is_cell_of hr (by omega) rfl (pa_cons (pv 0) (pa_cons (pv 3) pa_nil))))) (pss_one (ps_rz C.BadCell rfl (takes_of rfl rfl rfl rfl) rfl)) pss_nil)
    (pss_one (ps_ret (pe_c c_bank_at hr (by omega) rfl (pa_cons (pv 0) (pa_cons (pv 1) (pa_cons (pv 2) (pa_cons (pv 3) pa_nil))))))))))), ?rd⟩)
  case len => rintro ds d ⟨c, b, x, q, rfl, _, _, _, _, rfl⟩; rfl
  case rd =>
    rintro ds r ⟨c, b, x, q, rfl, hc, hb, hx, hq, rfl⟩
    cases h1 : okC c with
    | false => exact tr_dropX (ex_callR (ea_cons (ed_var rfl) ea_nil) ⟨c, rfl, hc, ifF h1⟩) (by show rBank ec c b x q = _; unfold rBank; rw [h1]; rfl)
    | true =>
      obtain ⟨hcs, ec1⟩ := okC_ex h1
      refine tr_drop (ed_callR (ea_cons (ed_var rfl) ea_nil) ⟨c, rfl, hc, ifT h1⟩) ?_
      cases h2 : btw b 1 32 with
      | false => exact tr_dropX (ex_callR (ea_cons (ed_var rfl) ea_nil) ⟨b, rfl, hb, ifF h2⟩) (by show rBank ec c b x q = _; unfold rBank; rw [h1, h2]; rfl)
      | true =>
        obtain ⟨eb1, hm1, hm2⟩ := okB_ex h2
        refine tr_drop (ed_callR (ea_cons (ed_var rfl) ea_nil) ⟨b, rfl, hb, ifT h2⟩) ?_
        cases h3 : isLay (csOf c) (intOf b) x with
        | false => exact tr_dropX (ex_callR (ea_cons (ed_var rfl) (ea_cons (ed_var rfl) (ea_cons (ed_var rfl) ea_nil))) ⟨csOf c, intOf b, x, by rw [← ec1, ← eb1], hcs, hx, ifF h3⟩) (by show rBank ec c b x q = _; unfold rBank; rw [h1, h2, h3]; rfl)
        | true =>
          obtain ⟨ex1, hw⟩ := isLay_ex h3
          refine tr_drop (ed_callR (ea_cons (ed_var rfl) (ea_cons (ed_var rfl) (ea_cons (ed_var rfl) ea_nil))) ⟨csOf c, intOf b, x, by rw [← ec1, ← eb1], hcs, hx, ifT h3⟩) ?_
          refine tr_when (et_not (et_B (ed_call (ea_cons (ed_var rfl) (ea_cons (ed_var rfl) ea_nil)) ⟨csOf c, q, by rw [← ec1], hcs, hq, rfl⟩))) (fun h => tr_raise ?_) (fun h => ?_)
          · have h4 : isCell (csOf c) q = false := by simpa using h
            show rBank ec c b x q = _
            unfold rBank
            rw [h1, h2, h3, h4]; rfl
          · have h4 : isCell (csOf c) q = true := by simpa using h
            obtain ⟨p, ep, hp, ep2⟩ := isCell_ex h4
            refine tr_ret (ed_call (ea_cons (ed_var rfl) (ea_cons (ed_var rfl) (ea_cons (ed_var rfl) (ea_cons (ed_var rfl) ea_nil)))) ⟨csOf c, intOf b, wayOf x, p, by rw [← ec1, ← eb1, ← ex1, ← ep], hcs, hm1, hm2, hw, hp, rfl⟩) ?_
            show rBank ec c b x q = _
            unfold rBank
            rw [h1, h2, h3, h4, ep2]; rfl
theorem nd_cost : (["counts", "banks", "laying", "lot"] : List PySem.Str).Nodup := by decide +kernel
theorem ok_cost (F : DfK K mg "cost" (top 27) ["counts", "banks", "laying", "lot"] cdv) (B : Bn mg) (C : EcOk K mg ec) (c_need_counts : CalX P w K mg base 3 "need_counts" (SpR T (fNeedC ec))) (c_need_banks : CalX P w K mg base 3 "need_banks" (SpR T (fNeedB ec))) (c_need_laying : CalX P w K mg base 4 "need_laying" (SpR T (fNeedL ec))) (c_need_lot : CalX P w K mg base 5 "need_lot" (SpR T (fNeedLot ec))) (c_cost_of : Cal P w K mg base 4 "cost_of" (SpD T fCost) []) : CalXK P w K mg base (5 + 1) "cost" ["counts", "banks", "laying", "lot"] (SpR T (fACost ec)) := by
  have nd := nd_cost
  refine calXK (N := ["counts", "banks", "laying", "lot"]) F (by decide +kernel) ?len (fun a A outer s H E hr => ⟨_, (pss_cons (ps_expr (pe_cx c_need_counts hr (by omega) rfl (takes_of rfl rfl rfl rfl) (pa_cons (pv 0) pa_nil)))
    (pss_cons (ps_expr (pe_cx c_need_banks hr (by omega) rfl (takes_of rfl rfl rfl rfl) (pa_cons (pv 1) pa_nil)))
    (pss_cons (ps_expr (pe_cx c_need_laying hr (by omega) rfl (takes_of rfl rfl rfl rfl) (pa_cons (pv 0) (pa_cons (pv 1) (pa_cons (pv 2) pa_nil)))))
    (pss_cons (ps_expr (pe_cx c_need_lot hr (by omega) rfl (takes_of rfl rfl rfl rfl) (pa_cons (pv 0) (pa_cons (pv 3) pa_nil))))
    (pss_one (ps_ret (pe_c c_cost_of hr (by omega) rfl (pa_cons (pv 0) (pa_cons (pv 1) (pa_cons (pv 2) (pa_cons (pv 3) pa_nil))))))))))), ?rd⟩)
  case len => rintro ds d ⟨c, b, x, q, rfl, _, _, _, _, rfl⟩; rfl
  case rd =>
    rintro ds r ⟨c, b, x, q, rfl, hc, hb, hx, hq, rfl⟩
    cases h1 : okC c with
    | false => exact tr_dropX (ex_callR (ea_cons (ed_var rfl) ea_nil) ⟨c, rfl, hc, ifF h1⟩) (by show rCost ec c b x q = _; unfold rCost; rw [h1]; rfl)
    | true =>
      obtain ⟨hcs, ec1⟩ := okC_ex h1
      refine tr_drop (ed_callR (ea_cons (ed_var rfl) ea_nil) ⟨c, rfl, hc, ifT h1⟩) ?_
      cases h2 : btw b 1 32 with
      | false => exact tr_dropX (ex_callR (ea_cons (ed_var rfl) ea_nil) ⟨b, rfl, hb, ifF h2⟩) (by show rCost ec c b x q = _; unfold rCost; rw [h1, h2]; rfl)
      | true =>
        obtain ⟨eb1, hm1, hm2⟩ := okB_ex h2
        refine tr_drop (ed_callR (ea_cons (ed_var rfl) ea_nil) ⟨b, rfl, hb, ifT h2⟩) ?_
        cases h3 : isLay (csOf c) (intOf b) x with
        | false => exact tr_dropX (ex_callR (ea_cons (ed_var rfl) (ea_cons (ed_var rfl) (ea_cons (ed_var rfl) ea_nil))) ⟨csOf c, intOf b, x, by rw [← ec1, ← eb1], hcs, hx, ifF h3⟩) (by show rCost ec c b x q = _; unfold rCost; rw [h1, h2, h3]; rfl)
        | true =>
          obtain ⟨ex1, hw⟩ := isLay_ex h3
          refine tr_drop (ed_callR (ea_cons (ed_var rfl) (ea_cons (ed_var rfl) (ea_cons (ed_var rfl) ea_nil))) ⟨csOf c, intOf b, x, by rw [← ec1, ← eb1], hcs, hx, ifT h3⟩) ?_
          cases h4 : isLot (csOf c) q with
          | false => exact tr_dropX (ex_callR (ea_cons (ed_var rfl) (ea_cons (ed_var rfl) ea_nil)) ⟨csOf c, q, by rw [← ec1], hcs, hq, ifF h4⟩) (by show rCost ec c b x q = _; unfold rCost; rw [h1, h2, h3, h4]; rfl)
          | true =>
            obtain ⟨eq1, hp⟩ := isLot_ex h4
            have hql : (lotOf q).length ≤ 1000 := by
              rw [eq1] at hq
              have := (pl_tup hq).1
              rw [List.length_map] at this
              exact this
            refine tr_drop (ed_callR (ea_cons (ed_var rfl) (ea_cons (ed_var rfl) ea_nil)) ⟨csOf c, q, by rw [← ec1], hcs, hq, ifT h4⟩) ?_
            refine tr_ret (ed_call (ea_cons (ed_var rfl) (ea_cons (ed_var rfl) (ea_cons (ed_var rfl) (ea_cons (ed_var rfl) ea_nil)))) ⟨csOf c, intOf b, wayOf x, lotOf q, by rw [← ec1, ← eb1, ← ex1, ← eq1], hcs, hm1, hm2, hw, hp, hql, rfl⟩) ?_
            show rCost ec c b x q = _
            unfold rCost
            rw [h1, h2, h3, h4]; rfl


end
end K62
set_option Elab.async false
set_option linter.all false
set_option maxRecDepth 100000
set_option maxHeartbeats 4000000
/-! The law's draws. -/
namespace K62
open PySem PySem.Spec PyProof.Rows L2 LamX C8 Fx
section
variable {P : Program} {w : World} {K : PySem.W.Frag} {mg : Str → Option Value} {base : Heap} {T : List (Addr × Str)} {cdv : Value} {c0 P0 : Addr} {W0' : Wld T} {S lw lc : Addr} {cells : List Int} {ec : Ec}
theorem nd_law_begun : (["_law_script", "_law_wide", "_law_grain"] : List PySem.Str).Nodup := by decide +kernel
theorem ok_law_begun (F : Df K mg "_law_begun" (top 29) ["_law_script"] cdv) (B : Bn mg) : Cal P w K mg base (1 + 1) "_law_begun" (SpBegunX T K) [] := by
  have nd := nd_law_begun
  refine cal_raw (N := ["_law_script", "_law_wide", "_law_grain"]) F (by decide +kernel) ?len (fun a A outer s H E hr => ⟨_, (pss_cons (ps_setLc (i := 1) rfl nd rfl rfl (sw_true rfl rfl rfl (by decide +kernel)) (kpi_list K (pv 0)) (blkOk_by (own := [("_law_grain", 2)]) (by rfl)) (fun _ _ _ _ _ => (pg_name (i := 2) nd rfl (Or.inl rfl))) (fun _ _ _ _ _ => (pts_one (pt_cmpR op_ge (pe_callB call_abs rfl (by exact B.abs) (by decide +kernel) (pa_cons (pv 2) pa_nil)) (pe_op op_pow pe_int pe_int) (nomark _)))) (fun _ _ _ _ _ => (pe_op op_sub (pe_callB call_abs rfl (by exact B.abs) (by decide +kernel) (pa_cons (pv 2) pa_nil)) (pe_op op_pow pe_int pe_int))))
    (pss_one (ps_ret (pe_disp (pps_cons pe_str (pv 1) (pps_cons pe_str (pe_lc rfl nd (kpi_list K (pv 0)) (blkOk_by (own := [("_law_grain", 2)]) (by rfl)) (fun _ _ _ _ _ => (pg_name (i := 2) nd rfl (Or.inl rfl))) (fun _ _ _ _ _ => pts_nil) (fun _ _ _ _ _ => (pe_op op_mod (pe_callTy call_int1 rfl (by exact B.int) (by decide +kernel) (pa_cons (pe_callB call_abs rfl (by exact B.abs) (by decide +kernel) (pa_cons (pv 2) pa_nil)) pa_nil)) pe_int))) (pps_cons pe_str pe_int (pps_cons pe_str pe_int pps_nil)))) (by rfl) (by rfl) (fun z => by cases z) (by decide))))), ?rd⟩)
  case len => rintro vs H Q E ⟨_, _, _, _, rfl, _⟩; rfl
  case rd =>
    rintro vs Q ⟨sa, ns, Pm, hns, rfl, G, c, g, j, q⟩
    have A := at_start (N := ["_law_script", "_law_wide", "_law_grain"]) (ds := [.raw (.ref sa)]) g j (.cons (.raw (.ref sa)) .nil) (by simp)
    refine seq_asg (mn_lcP (T := T) (W := WS T K sa ns Pm) (fun d b => ∀ x : Int, d = .int x → b = decide ((10 : Int) ^ (18 : Int).toNat ≤ (x.natAbs : Nat))) (fun d => ∃ x : Int, d = .int x ∧ 0 ≤ x) (src_scr (i := 0) rfl) (by rw [List.length_map]; omega) (fun d hd c' => ?_) (fun d hd pt c' => ?_) _ _ _ _ _ A _ fun p xs ds G2 H2 s2 g2 j2 hp gp nf m r ⟨hl, hds⟩ => ?_)
    · obtain ⟨x, hx, rfl⟩ := List.mem_map.mp hd
      exact (et_test (ed_op (ed_CB (ea_cons (ed_var rfl) ea_nil) rdl_abs) (ed_op ed_int ed_int (rd_pow ⟨by decide, by decide, by decide⟩)) rd_ge)).n.imp (Nat.le_refl _) fun b e y ey => by cases ey; exact e
    · obtain ⟨x, hx, rfl⟩ := List.mem_map.mp hd
      refine (ed_op (ed_CB (ea_cons (ed_var rfl) ea_nil) rdl_abs) (ed_op ed_int ed_int (rd_pow ⟨by decide, by decide, by decide⟩)) rd_sub).n.imp (Nat.le_refl _) fun d e => ⟨_, e, ?_⟩
      have := of_decide_eq_true (pt x rfl).symm
      omega
    have A2 := A.setMN 1 (by simp [env0]) s2 g2 j2 hp gp nf m r
    obtain ⟨ws, rfl, hws⟩ := ints_of ds hds
    refine ret_raw (disp_draw (by rfl) hws (fun G0 H0 σ G H A Q q => ?_) A2 _ fun S lw lc cells G3 H3 s3 g3 j3 d hc n1 n2 n3 => q S lw lc ws cells G3 H3 (s2.trans s3) g3 j3 d hc n1 n2 n3)
    refine mn_lcP (T := T) (W := WS T K sa ns Pm) (fun _ _ => True) (fun d => ∃ x : Int, d = .int x ∧ 0 ≤ x) (src_scr (i := 0) rfl) (by rw [List.length_map]; omega) (fun d hd c' => et_yes.n.imp (Nat.le_refl _) fun _ _ => trivial) (fun d hd _ c' => ?_) _ _ _ _ _ A Q fun p xs ds G2 H2 s2 g2 j2 hp gp nf m r ⟨hl, hds⟩ => q p xs ds G2 H2 s2 g2 j2 hp gp nf m r (ints_of ds hds)
    obtain ⟨x, hx, rfl⟩ := List.mem_map.mp hd
    exact (ed_op (ed_CB (ea_cons (ed_CB (ea_cons (ed_var rfl) ea_nil) rdl_abs) ea_nil) rdl_int) ed_int (rd_mod (by decide))).n.imp (Nat.le_refl _) fun d e => ⟨_, e, Int.emod_nonneg _ (by decide)⟩
theorem nd_law_mixed : (["_law_draw", "_law_turn", "_law_found", "_law_prime", "_law_blend", "_law_grain"] : List PySem.Str).Nodup := by decide +kernel
theorem ok_law_mixed (F : Df K mg "_law_mixed" (top 35) ["_law_draw"] cdv) (B : Bn mg) : Cal P w K mg base (1 + 1) "_law_mixed" (SpSx T 1 fMix) [] := by
  have nd := nd_law_mixed
  refine calSx (N := ["_law_draw", "_law_turn", "_law_found", "_law_prime", "_law_blend", "_law_grain"]) F (by decide +kernel) ?len (fun a A outer s H E hr => ⟨_, (pss_cons (ps_par (i := 1) (j := 2) rfl nd rfl rfl (by decide) rfl rfl (pa_cons (pe_op op_add (pe_dget (hu_of hr) (pv 0) pe_str (fun _ _ => rfl)) pe_int) (pa_cons pe_int pa_nil)) (by rfl))
    (pss_cons (ps_dput (hu_of hr) (pv 0) pe_str (pv 1) rfl)
    (pss_cons (ps_for PassesOwn.never rfl (kpi_list K (pe_lst (pa_cons pe_int (pa_cons pe_int (pa_cons pe_int (pa_cons pe_int pa_nil)))))) (pg_name (i := 3) nd rfl (Or.inl rfl)) (pss_cons (ps_set (i := 4) nd rfl (Or.inl rfl) (pe_op op_add (pe_op op_mulW pe_int (pv 1)) (pe_op op_fdivW (pv 3) pe_int)))
    (pss_cons (ps_for PassesOwn.never rfl (kpi_list K (pe_dget (hu_of hr) (pv 0) pe_str (fun _ _ => rfl))) (pg_name (i := 5) nd rfl (Or.inl rfl)) (pss_one (ps_set (i := 4) nd rfl (Or.inl rfl) (pe_op op_mod (pe_callTy call_int1 rfl (by exact B.int) (by decide +kernel) (pa_cons (pe_op op_add (pe_op op_add (pe_op op_mulW (pv 4) pe_int) (pv 5)) (pv 1)) pa_nil)) (pv 3)))))
    (pss_one (ps_set (i := 2) nd rfl (Or.inl rfl) (pe_op op_add (pe_op op_mulW (pv 2) pe_int) (pe_op op_mod (pe_callTy call_int1 rfl (by exact B.int) (by decide +kernel) (pa_cons (pe_op op_pow (pv 4) pe_int) pa_nil)) (pv 3))))))))
    (pss_one (ps_ret (pv 2)))))), ?rd⟩)
  case len => rintro S ds d ⟨rfl, _⟩; rfl
  case rd =>
    rintro W0' S lw lc cells ds P c ⟨rfl, hP⟩ hc
    have hc : c + 1 ≤ 1099511627776 := hc
    refine tr_parN (n := 0) (ean_cons (en_op (en_turn rfl) (ed_int (i := 1)).n (P := fun d => ∃ r : Int, d = .int r ∧ 0 ≤ r ∧ r ≤ (c + 1 : Nat)) fun d1 d2 ⟨t, e1, t0, t1⟩ e2 => ⟨.int (t + 1), by rw [e1, e2]; exact rd_add, t + 1, rfl, by omega, by omega⟩) (ean_cons (ed_int (i := 0)).n ean_nil)) ?_
    rintro l ⟨d1, ds1, rfl, ⟨t, rfl, t0, t1⟩, d2, ds2, rfl, rfl, rfl⟩
    refine ⟨_, _, rfl, ?_⟩
    refine tr_seq (fun e c2 => e = [.dat (.raw (.ref S)), .dat (.int t), .dat (.int 0), .emp, .emp, .emp] ∧ c2 = c + 1) (tr_putT (n := 0) rfl ((ed_var rfl).n.imp (Nat.le_refl _) fun d e => ⟨t, e, t0, t1⟩) ⟨rfl, rfl⟩) ?_
    rintro e c2 ⟨rfl, rfl⟩
    refine tr_seq (fun e c2 => c2 = c + 1 ∧ ∃ found : Int, ∃ s3 s4 s5, e = [.dat (.raw (.ref S)), .dat (.int t), .dat (.int found), s3, s4, s5] ∧ 0 ≤ found) ?_ ?_
    · refine tr_for (src_list (ed_lst (ea_cons ed_int (ea_cons ed_int (ea_cons ed_int (ea_cons ed_int ea_nil)))) (by decide))).n ?_
      rintro _ rfl
      refine ⟨fun i e c2 => c2 = c + 1 ∧ ∃ found : Int, ∃ s3 s4 s5, e = [.dat (.raw (.ref S)), .dat (.int t), .dat (.int found), s3, s4, s5] ∧ 0 ≤ found ∧ found ≤ (2 : Int) ^ (64 * i) ∧ i ≤ 4, ⟨rfl, 0, _, _, _, rfl, by omega, by decide, by omega⟩, ?_, ?_⟩
      · rintro i d e c1 hd ⟨rfl, found, s3, s4, s5, rfl, f0, f1, hi⟩
        have hil : i < 4 := (List.getElem?_eq_some_iff.mp hd).1
        obtain ⟨p, rfl, p0, p1⟩ : ∃ p : Int, d = .int p ∧ 2147483543 ≤ p ∧ p ≤ 2147483647 := by
          have hm := List.mem_of_getElem? hd
          simp only [List.mem_cons, List.mem_nil_iff, or_false] at hm
          rcases hm with rfl | rfl | rfl | rfl <;> exact ⟨_, rfl, by decide, by decide⟩
        have hy : (2 : Int) ^ (64 * (i + 1)) = 2 ^ (64 * i) * 18446744073709551616 := by
          rw [Nat.mul_succ, Int.pow_add]; rfl
        have hy1 : (1 : Int) ≤ 2 ^ (64 * i) := by
          have : (0 : Int) < 2 ^ (64 * i) := Int.pow_pos (by decide)
          omega
        have hy2 : (2 : Int) ^ (64 * i) ≤ 2 ^ 384 := by
          have : (2 : Nat) ^ (64 * i) ≤ 2 ^ 384 := Nat.pow_le_pow_right (by decide) (by omega)
          exact_mod_cast this
        have hf : found.natAbs < 2 ^ 385 := natAbs_lt f0 (Int.lt_of_le_of_lt (Int.le_trans f1 hy2) (by decide))
        refine ⟨_, tg_name, ?_⟩
        refine tr_set (d := .int (48271 * t + p / 31)) (ed_op (ed_op ed_int (ed_var rfl) (rd_mulW (wide_mul (a := 17) (b := 41) (by decide) (natAbs_lt t0 (Int.lt_of_le_of_lt (b := 1099511627777) (by omega) (by decide))) (by decide) (by decide) (by decide)))) (ed_op (ed_var rfl) ed_int (rd_divW (wide_div (b := 5) (by decide) (by decide) (by decide) (by decide)))) rd_add) ?_
        refine tr_seq (fun e c2 => c2 = c + 1 ∧ ∃ b : Int, ∃ s5, e = [.dat (.raw (.ref S)), .dat (.int t), .dat (.int found), .dat (.int p), .dat (.int b), s5] ∧ 0 ≤ b ∧ b < 18446744073709551616) ?_ ?_
        · refine tr_for (src_cells rfl).n ?_
          rintro _ rfl
          have hdiv : 0 ≤ p / 31 ∧ p / 31 ≤ p := ⟨Int.ediv_nonneg (by omega) (by decide), by omega⟩
          refine ⟨fun i e c2 => c2 = c + 1 ∧ ∃ b : Int, ∃ s5, e = [.dat (.raw (.ref S)), .dat (.int t), .dat (.int found), .dat (.int p), .dat (.int b), s5] ∧ 0 ≤ b ∧ b < 18446744073709551616, ⟨rfl, _, _, rfl, by omega, by omega⟩, ?_, fun e c h => h⟩
          rintro j d e c1 hd ⟨rfl, b, s5, rfl, b0, b1⟩
          rw [List.getElem?_map] at hd
          cases hx : cells[j]? with
          | none => rw [hx] at hd; cases hd
          | some x =>
          rw [hx] at hd
          cases hd
          refine ⟨_, tg_name, ?_⟩
          refine tr_set1 (d := .int ((b * 69621 + x + t) % p)) (ed_op (ed_CB (ea_cons (ed_op (ed_op (ed_op (ed_var rfl) ed_int (rd_mulW (wide_mul (a := 64) (b := 17) (natAbs_lt b0 b1) (by decide) (by decide) (by decide) (by decide)))) (ed_var rfl) rd_add) (ed_var rfl) rd_add) ea_nil) rdl_int) (ed_var rfl) (rd_mod (by omega))) ⟨rfl, _, _, rfl, Int.emod_nonneg _ (by omega), ?_⟩
          have := Int.emod_lt_of_pos (b * 69621 + x + t) (show (0 : Int) < p by omega)
          omega
        · rintro e c2 ⟨rfl, b, s5, rfl, b0, b1⟩
          have h1 := Int.emod_nonneg (b ^ (5 : Int).toNat) (show p ≠ 0 by omega)
          have h2 := Int.emod_lt_of_pos (b ^ (5 : Int).toNat) (show (0 : Int) < p by omega)
          refine tr_set1 (d := .int (found * 2147483647 + b ^ (5 : Int).toNat % p)) (ed_op (ed_op (ed_var rfl) ed_int (rd_mulW (wide_mul (a := 385) (b := 31) hf (by decide) (by decide) (by decide) (by decide)))) (ed_op (ed_CB (ea_cons (ed_op (ed_var rfl) ed_int (rd_pow ⟨by decide, by decide, natAbs_lt b0 b1⟩)) ea_nil) rdl_int) (ed_var rfl) (rd_mod (by omega))) rd_add) ⟨rfl, _, _, _, _, rfl, by omega, ?_, by omega⟩
          rw [hy]
          omega
      · rintro e c1 ⟨rfl, found, s3, s4, s5, rfl, f0, _⟩
        exact ⟨rfl, _, _, _, _, rfl, f0⟩
    · rintro e c2 ⟨rfl, found, s3, s4, s5, rfl, f0⟩
      exact tr_ret (ed_var rfl) ⟨hP _ f0, by omega⟩
theorem nd_law_take : (["_law_draw", "_law_size", "_law_found"] : List PySem.Str).Nodup := by decide +kernel
theorem ok_law_take (F : Df K mg "_law_take" (top 34) ["_law_draw", "_law_size"] cdv) (B : Bn mg) (c_law_mixed : Cal P w K mg base 2 "_law_mixed" (SpSx T 1 fMix) []) : Cal P w K mg base (2 + 1) "_law_take" (SpSx T 1 fDraw) [] := by
  have nd := nd_law_take
  refine calSx (N := ["_law_draw", "_law_size", "_law_found"]) F (by decide +kernel) ?len (fun a A outer s H E hr => ⟨_, (pss_cons (ps_if (pt_cmpR (keq K hr.units) (pe_dget (hu_of hr) (pv 0) pe_str (fun _ _ => rfl)) pe_int (nomark _)) (pss_one (ps_dput (hu_of hr) (pv 0) pe_str (pe_ifExp (pt_cmpR (kne K hr.units) (pe_dget (hu_of hr) (pv 0) pe_str (fun _ _ => rfl)) (pe_lst pa_nil) (nomark _)) (pe_bm PySem.F.plainAttrs_list PySem.F.slot_list_pop PySem.F.type_list_pop mt_popAt (pe_dget (hu_of hr) (pv 0) pe_str (fun _ _ => rfl)) (pa_cons pe_int pa_nil)) (pe_c c_law_mixed hr (by omega) rfl (pa_cons (pv 0) pa_nil))) rfl)) pss_nil)
    (pss_cons (ps_set (i := 2) nd rfl (Or.inl rfl) (pe_op op_mod (pe_callTy call_int1 rfl (by exact B.int) (by decide +kernel) (pa_cons (pe_dget (hu_of hr) (pv 0) pe_str (fun _ _ => rfl)) pa_nil)) (pv 1)))
    (pss_cons (ps_dput (hu_of hr) (pv 0) pe_str (pe_op op_fdivW (pe_dget (hu_of hr) (pv 0) pe_str (fun _ _ => rfl)) (pv 1)) rfl)
    (pss_one (ps_ret (pv 2)))))), ?rd⟩)
  case len => rintro S ds d ⟨n, rfl, _⟩; rfl
  case rd =>
    rintro W0' S lw lc cells ds P c ⟨n, rfl, n0, n1, hP⟩ hc
    refine tr_seq (fun e c2 => e = [.dat (.raw (.ref S)), .dat (.int n), .emp] ∧ c ≤ c2 ∧ c2 ≤ c + 1) (tr_ifN (etn_test (en_op (P := fun d => ∃ b, d = .bl b ∧ True) (en_rest rfl) (ed_int (i := 0)).n fun d1 d2 ⟨r, e1, r0⟩ e2 => ⟨.bl (decide (r = 0)), by rw [e1, e2]; exact rd_eqI, _, rfl, trivial⟩)) (fun _ => ?_) (fun _ => tr_next ⟨rfl, by omega, by omega⟩)) ?_
    · exact tr_putR (n := 1) rfl (en_next rfl (en_callX (f := fMix) (ean_cons (ed_var rfl).n ean_nil) (fun ds ⟨d1, ds1, e1, e2, e3⟩ => ⟨by rw [e1, e2, e3], fun x hx => ⟨x, rfl, hx⟩⟩) (by omega))) ⟨rfl, by omega, by omega⟩
    · rintro e c2 ⟨rfl, h1, h2⟩
      refine tr_setN (n := 0) (en_op (P := fun d => ∃ x : Int, d = .int x ∧ 0 ≤ x ∧ x < n) (en_CB (P' := fun d => ∃ r : Int, d = .int r ∧ 0 ≤ r) (ean_cons (en_rest rfl) ean_nil) fun ds ⟨d1, ds1, e1, ⟨r, e2, r0⟩, e3⟩ => ⟨.int r, by rw [e1, e2, e3]; exact rdl_int, r, rfl, r0⟩) (ed_var rfl).n fun d1 d2 ⟨r, e1, r0⟩ e2 => ⟨.int (r % n), by rw [e1, e2]; exact rd_mod n0, _, rfl, Int.emod_nonneg _ (by omega), Int.emod_lt_of_pos _ n0⟩) ?_
      rintro d ⟨x, rfl, x0, x1⟩
      refine tr_seq (fun e c3 => e = [.dat (.raw (.ref S)), .dat (.int n), .dat (.int x)] ∧ c3 = c2) (tr_putR (n := 0) rfl (en_op (en_rest rfl) (ed_var rfl).n fun d1 d2 ⟨r, e1, r0⟩ e2 => ⟨.int (r / n), by rw [e1, e2]; exact rd_divW (wide_div (b := 20) n0 (by omega) (by decide) (by decide)), _, rfl, Int.ediv_nonneg r0 (by omega)⟩) ⟨rfl, rfl⟩) ?_
      rintro e c3 ⟨rfl, rfl⟩
      exact tr_ret (ed_var rfl) ⟨hP x x0 x1, by omega⟩
theorem nd_law_pick : (["_law_draw", "_law_some"] : List PySem.Str).Nodup := by decide +kernel
theorem ok_law_pick (F : Df K mg "_law_pick" (top 30) ["_law_draw", "_law_some"] cdv) (B : Bn mg) (c_law_take : Cal P w K mg base 3 "_law_take" (SpSx T 1 fDraw) []) : Cal P w K mg base (3 + 1) "_law_pick" (SpSx T 1 fPick) [] := by
  have nd := nd_law_pick
  refine calSx (N := ["_law_draw", "_law_some"]) F (by decide +kernel) ?len (fun a A outer s H E hr => ⟨_, (pss_one (ps_ret (pe_ix (kix K) (pv 1) (pe_c c_law_take hr (by omega) rfl (pa_cons (pv 0) (pa_cons (pe_callB (klen K) rfl (by exact B.len) (by decide +kernel) (pa_cons (pv 1) pa_nil)) pa_nil))) (fun _ _ => rfl)))), ?rd⟩)
  case len => rintro S ds d ⟨n, rfl, _⟩; rfl
  case rd =>
    rintro W0' S lw lc cells ds P c ⟨es, rfl, n0, n1, hP⟩ hc
    refine tr_retN (n := 0 + 1) (P := fun d => d ∈ es) (en_op (ed_var rfl).n (en_take (n := ((es.length : Nat) : Int)) rfl (ed_CB (ea_cons (ed_var rfl) ea_nil) rdl_len) (by omega) (by omega) (by omega)) fun d1 d2 e1 ⟨x, e2, x0, x1⟩ => ?_) fun d hd => ⟨hP d hd, by omega⟩
    obtain ⟨k, rfl⟩ := Int.eq_ofNat_of_zero_le x0
    have hk : k < es.length := by omega
    exact ⟨es[k], by rw [e1, e2]; exact rd_ixL (List.getElem?_eq_getElem hk), List.getElem_mem hk⟩
theorem nd_law_few_of : (["_law_draw", "_law_some", "_law_size", "_law_item"] : List PySem.Str).Nodup := by decide +kernel
theorem ok_law_few_of (F : Df K mg "_law_few_of" (top 36) ["_law_draw", "_law_some", "_law_size"] cdv) (B : Bn mg) (c_law_take : Cal P w K mg base 3 "_law_take" (SpSx T 1 fDraw) []) : Cal P w K mg base (3 + 1) "_law_few_of" (SpSx T 300 fFew) [] := by
  have nd := nd_law_few_of
  refine calSx (N := ["_law_draw", "_law_some", "_law_size", "_law_item"]) F (by decide +kernel) ?len (fun a A outer s H E hr => ⟨_, (pss_one (ps_ret (pe_lc rfl nd (kpi_list K (pv 1)) (blkOk_by (own := [("_law_item", 3)]) (by rfl)) (fun _ _ _ _ _ => (pg_name (i := 3) nd rfl (Or.inl rfl))) (fun _ _ _ _ _ => (pts_one (pt_cmpR (keq K hr.units) (pe_c c_law_take hr (by omega) rfl (pa_cons (pv 0) (pa_cons (pv 2) pa_nil))) pe_int (nomark _)))) (fun _ _ _ _ _ => (pv 3))))), ?rd⟩)
  case len => rintro S ds d ⟨es, n, rfl, _⟩; rfl
  case rd =>
    rintro W0' S lw lc cells ds P c ⟨es, n, rfl, hl, n0, n1, hP⟩ hc
    refine tr_retN (n := 0 + (1 + 0) * es.length) (P := fun d => ∃ l : List D, d = .lst l ∧ l.Sublist es) ((en_lc (k0 := 0) (kt := 1) (ke := 0) (n := es.length) (P0 := fun l => l = es) (fun d => [.dat (.raw (.ref S)), .dat (.lst es), .dat (.int n), .dat d]) (fun _ _ _ => True) (fun _ d e => e = d) (src_list (ed_var rfl)).n (fun l e => by rw [e]; exact Nat.le_refl _) (by omega) (fun l e d hd => tgc_name List.mem_cons_self) (fun l e i d hd c' hc' => ?_) (fun l e i d hd c' hc' _ => (ed_var rfl).n)).imp (Nat.le_refl _) ?_) ?_
    · refine etn_test (en_op (P := fun d => ∃ b, d = .bl b ∧ True) (en_take (n := n) rfl (ed_var rfl) n0 n1 (by omega)) (ed_int (i := 0)).n fun d1 d2 ⟨x, e1, _⟩ e2 => ⟨.bl (decide (x = 0)), by rw [e1, e2]; exact rd_eqI, _, rfl, trivial⟩)
    · rintro d ⟨l, os, rfl, ho, hR, rfl⟩
      refine ⟨_, rfl, sub_of ho fun i x o h1 h2 => ?_⟩
      rcases hR i x o h1 h2 with ⟨z, _⟩ | ⟨y, z, _, e⟩
      · exact .inl z
      · rw [e] at z; exact .inr z
    · rintro d ⟨l, rfl, hs⟩
      exact ⟨hP l hs, by omega⟩
end
end K62


set_option Elab.async false
set_option linter.all false
set_option maxRecDepth 100000
set_option maxHeartbeats 4000000
/-! The law's own sums. -/
namespace K62
open PySem PySem.Spec PyProof.Rows L2 LamX C8 Fx
section
variable {P : Program} {w : World} {K : PySem.W.Frag} {mg : Str → Option Value} {base : Heap} {T : List (Addr × Str)} {cdv : Value} {c0 P0 : Addr} {W0' : Wld T} {S lw lc : Addr} {cells : List Int} {ec : Ec}
theorem nd_law_is_whole : (["_law_item"] : List PySem.Str).Nodup := by decide +kernel
theorem ok_law_is_whole (F : Df K mg "_law_is_whole" (top 32) ["_law_item"] cdv) (B : Bn mg) : Cal P w K mg base (0 + 1) "_law_is_whole" (SpD T fIsNumber) [] := by
  have nd := nd_law_is_whole
  refine calD (N := ["_law_item"]) F (by decide +kernel) ?len (fun a A outer s H E hr => ⟨_, (pss_one (ps_ret (pe_and (pe_callB (kisi K) rfl (by exact B.isinstance) (by decide +kernel) (pa_cons (pv 0) (pa_cons (pe_bltn (v := .ty "int") rfl (by exact B.int) (by decide +kernel) rfl) pa_nil))) (pe_one (pe_not (pe_callB (kisi K) rfl (by exact B.isinstance) (by decide +kernel) (pa_cons (pv 0) (pa_cons (pe_bltn (v := .ty "bool") rfl (by exact B.bool) (by decide +kernel) rfl) pa_nil)))))))), ?rd⟩)
  case len => rintro ds d ⟨i, rfl, _, rfl⟩; rfl
  case rd =>
    rintro ds d ⟨x, rfl, hx, rfl⟩
    refine tr_ret ((ed_andV (ed_CB (ea_cons (ed_var rfl) (ea_cons ed_raw ea_nil)) (rdl_isI hx)) fun _ => ed_notV (ed_CB (ea_cons (ed_var rfl) (ea_cons ed_raw ea_nil)) (rdl_isB hx))).eq ?_) rfl
    cases x <;> rfl
theorem nd_law_box : (["_law_counts_here"] : List PySem.Str).Nodup := by decide +kernel
theorem ok_law_box (F : Df K mg "_law_box" (top 33) ["_law_counts_here"] cdv) (B : Bn mg) : Cal P w K mg base (0 + 1) "_law_box" (SpD T fShape) [] := by
  have nd := nd_law_box
  refine calD (N := ["_law_counts_here"]) F (by decide +kernel) ?len (fun a A outer s H E hr => ⟨_, (pss_one (ps_ret (pe_ifExp (pt_cmpR (keq K hr.units) (pe_callB (klen K) rfl (by exact B.len) (by decide +kernel) (pa_cons (pv 0) pa_nil)) pe_int (nomark _)) (pe_tup (pa_cons pe_int (pa_cons (pe_ix (kix K) (pv 0) pe_int (fun _ _ => rfl)) pa_nil))) (pv 0)))), ?rd⟩)
  case len => rintro ds d ⟨x, rfl, _, rfl⟩; rfl
  case rd =>
    rintro ds d ⟨cs, rfl, hc, rfl⟩
    refine tr_ret (ed_if (et_B (ed_op (ed_CB (ea_cons (ed_var rfl) ea_nil) rdl_lenT) ed_int rd_eqI)) (fun h => ?_) (fun h => ?_)) rfl
    · rcases hc.cases with ⟨a, rfl⟩ | ⟨a, b, rfl⟩
      · exact ed_tup (ea_cons ed_int (ea_cons (ed_op (ed_var rfl) ed_int (rd_ixT (i := 0) rfl)) ea_nil)) (by simp)
      · simp at h
    · rcases hc.cases with ⟨a, rfl⟩ | ⟨a, b, rfl⟩
      · simp at h
      · exact ed_var rfl
def fSays : List D → D → Prop := fun ds d => ∃ a b, ds = [.bl a, .bl b] ∧ d = .bl (a == b)
theorem nd_law_says : (["_law_found", "_law_due"] : List PySem.Str).Nodup := by decide +kernel
theorem ok_law_says (F : Df K mg "_law_says" (top 37) ["_law_found", "_law_due"] cdv) (B : Bn mg) : Cal P w K mg base (0 + 1) "_law_says" (SpD T fSays) [] := by
  have nd := nd_law_says
  refine calD (N := ["_law_found", "_law_due"]) F (by decide +kernel) ?len (fun a A outer s H E hr => ⟨_, (pss_one (ps_ret (pe_ifExp (pt_val (pv 1)) (pe_cmpR op_isBl (pv 0) pe_bl (nomark _)) (pe_cmpR op_isBl (pv 0) pe_bl (nomark _))))), ?rd⟩)
  case len => rintro ds d ⟨a, b, rfl, rfl⟩; rfl
  case rd =>
    rintro ds d ⟨a, b, rfl, rfl⟩
    refine tr_ret (ed_if (et_B (ed_var rfl)) (fun h => ?_) (fun h => ?_)) rfl
    · subst h
      exact (ed_op (ed_var rfl) ed_bl rd_isB).eq (by cases a <;> rfl)
    · subst h
      exact (ed_op (ed_var rfl) ed_bl rd_isB).eq (by cases a <;> rfl)
theorem cs_last {cs : List Int} (h : CsOk cs) : ∃ xs, dI cs = .tup (xs ++ [.int (colsF cs)]) := by
  rcases h.cases with ⟨a, rfl⟩ | ⟨a, b, rfl⟩
  · exact ⟨[], rfl⟩
  · exact ⟨[.int a], rfl⟩
theorem nd_law_bank : (["_law_counts_here", "_law_many_here", "_law_way_here", "_law_cell_here", "_law_broad", "_law_down", "_law_across"] : List PySem.Str).Nodup := by decide +kernel
theorem ok_law_bank (F : Df K mg "_law_bank" (top 39) ["_law_counts_here", "_law_many_here", "_law_way_here", "_law_cell_here"] cdv) (B : Bn mg) : Cal P w K mg base (0 + 1) "_law_bank" (SpD T fBank) [] := by
  have nd := nd_law_bank
  refine calD (N := ["_law_counts_here", "_law_many_here", "_law_way_here", "_law_cell_here", "_law_broad", "_law_down", "_law_across"]) F (by decide +kernel) ?len (fun a A outer s H E hr => ⟨_, (pss_cons (ps_set (i := 4) nd rfl (Or.inl rfl) (pe_ix (kix K) (pv 0) (pe_un un_neg pe_int) (fun _ _ => rfl)))
    (pss_cons (ps_asg (pv 3) (pg_tup rfl (pgs_cons (pg_name (i := 5) nd rfl (Or.inl rfl)) (pgs_cons (pg_name (i := 6) nd rfl (Or.inl rfl)) pgs_nil))))
    (pss_cons (ps_if (pt_cmpR op_eq (pe_ix (kix K) (pv 2) pe_int (fun _ _ => rfl)) pe_str (nomark _)) (pss_one (ps_ret (pe_ix (kix K) (pe_ix (kix K) (pv 2) pe_int (fun _ _ => rfl)) (pe_op op_add (pe_op op_mulW (pv 5) (pv 4)) (pv 6)) (fun _ _ => rfl)))) pss_nil)
    (pss_cons (ps_if (pt_cmpR op_eq (pe_ix (kix K) (pv 2) pe_int (fun _ _ => rfl)) pe_str (nomark _)) (pss_one (ps_ret (pe_op op_mod (pe_callTy call_int1 rfl (by exact B.int) (by decide +kernel) (pa_cons (pe_op op_add (pe_op op_mulW (pv 5) (pe_op op_add (pv 4) (pe_ix (kix K) (pv 2) pe_int (fun _ _ => rfl)))) (pv 6)) pa_nil)) (pv 1)))) pss_nil)
    (pss_one (ps_ret (pe_op op_mod (pe_callTy call_int1 rfl (by exact B.int) (by decide +kernel) (pa_cons (pe_op op_add (pe_op op_mulW (pv 5) (pv 4)) (pe_op op_mod (pe_callTy call_int1 rfl (by exact B.int) (by decide +kernel) (pa_cons (pe_op op_add (pv 6) (pe_op op_mulW (pe_ix (kix K) (pv 2) pe_int (fun _ _ => rfl)) (pv 5))) pa_nil)) (pv 4))) pa_nil)) (pv 1)))))))), ?rd⟩)
  case len => rintro ds d ⟨cs, m, way, p, rfl, _, _, _, _, _, rfl⟩; rfl
  case rd =>
    rintro ds d ⟨cs, m, way, p, rfl, hc, hm1, hm2, hw, hp, rfl⟩
    have hb := hc.b
    have hix := hp.ix
    obtain ⟨xs, exs⟩ := cs_last hc
    refine tr_set (d := .int (colsF cs)) (ed_op ((ed_var rfl).eq exs) ((ed_un ed_int rd1_neg).eq (d' := .int (-1)) rfl) rd_ixLast) ?_
    refine tr_tg (ed_var rfl) tg_tup2 ?_
    have hp' := hp
    obtain ⟨h1, h2, h3, h4⟩ := hp'
    cases way with
    | lis ns =>
      obtain ⟨hl, hns⟩ := hw
      refine tr_when (et_test (ed_op (ed_op (ed_var rfl) ed_int (rd_ixT (i := 0) rfl)) ed_str rd_eqS)) (fun _ => ?_) (fun h => absurd h (by decide +kernel))
      obtain ⟨k, hk⟩ := Int.eq_ofNat_of_zero_le hix.1
      have hkl : k < ns.length := by omega
      refine tr_ret (ed_op (ed_op (ed_var rfl) ed_int (rd_ixT (i := 1) rfl)) ((ed_op (ed_op (ed_var rfl) (ed_var rfl) (rd_mulB (by omega) (by omega))) (ed_var rfl) rd_add).eq (d' := .int (k : Nat)) (by rw [hk])) (rd_ixT (i := k) (d := .int ns[k]) (by rw [List.getElem?_map, List.getElem?_eq_getElem hkl]; rfl))) ?_
      show D.int ns[k] = .int (ns.getD (p.1 * colsF cs + p.2).toNat 0)
      rw [hk]
      simp [List.getD_eq_getElem?_getD, List.getElem?_eq_getElem hkl]
    | pad n =>
      obtain ⟨hn1, hn2⟩ := hw
      refine tr_when (et_test (ed_op (ed_op (ed_var rfl) ed_int (rd_ixT (i := 0) rfl)) ed_str rd_eqS)) (fun h => absurd h (by decide +kernel)) (fun _ => ?_)
      refine tr_when (et_test (ed_op (ed_op (ed_var rfl) ed_int (rd_ixT (i := 0) rfl)) ed_str rd_eqS)) (fun _ => ?_) (fun h => absurd h (by decide +kernel))
      exact tr_ret (ed_op (ed_CB (ea_cons (ed_op (ed_op (ed_var rfl) (ed_op (ed_var rfl) (ed_op (ed_var rfl) ed_int (rd_ixT (i := 1) rfl)) rd_add) (rd_mulB (by omega) (by omega))) (ed_var rfl) rd_add) ea_nil) rdl_int) (ed_var rfl) (rd_mod (by omega))) rfl
    | tur n =>
      obtain ⟨hn1, hn2⟩ := hw
      refine tr_when (et_test (ed_op (ed_op (ed_var rfl) ed_int (rd_ixT (i := 0) rfl)) ed_str rd_eqS)) (fun h => absurd h (by decide +kernel)) (fun _ => ?_)
      refine tr_when (et_test (ed_op (ed_op (ed_var rfl) ed_int (rd_ixT (i := 0) rfl)) ed_str rd_eqS)) (fun h => absurd h (by decide +kernel)) (fun _ => ?_)
      exact tr_ret (ed_op (ed_CB (ea_cons (ed_op (ed_op (ed_var rfl) (ed_var rfl) (rd_mulB (by omega) (by omega))) (ed_op (ed_CB (ea_cons (ed_op (ed_var rfl) (ed_op (ed_op (ed_var rfl) ed_int (rd_ixT (i := 1) rfl)) (ed_var rfl) (rd_mulB (by omega) (by omega))) rd_add) ea_nil) rdl_int) (ed_var rfl) (rd_mod (by omega))) rd_add) ea_nil) rdl_int) (ed_var rfl) (rd_mod (by omega))) rfl
theorem nd_law_price : (["_law_counts_here", "_law_many_here", "_law_way_here", "_law_lot_here", "_law_some", "_law_cell_here", "_law_other_bank", "_law_bank_here"] : List PySem.Str).Nodup := by decide +kernel
theorem ok_law_price (F : Df K mg "_law_price" (top 40) ["_law_counts_here", "_law_many_here", "_law_way_here", "_law_lot_here"] cdv) (B : Bn mg) (c_law_bank : Cal P w K mg base 1 "_law_bank" (SpD T fBank) []) : Cal P w K mg base (1 + 1) "_law_price" (SpD T fCost) [] := by
  have nd := nd_law_price
  refine calD (N := ["_law_counts_here", "_law_many_here", "_law_way_here", "_law_lot_here", "_law_some", "_law_cell_here", "_law_other_bank", "_law_bank_here"]) F (by decide +kernel) ?len (fun a A outer s H E hr => ⟨_, (pss_cons (ps_set (i := 4) nd rfl (Or.inr rfl) (pe_lc rfl nd (kpi_tup K (pv 3)) (blkOk_by (own := [("_law_cell_here", 5)]) (by rfl)) (fun _ _ _ _ _ => (pg_name (i := 5) nd rfl (Or.inl rfl))) (fun _ _ _ _ _ => pts_nil) (fun _ _ _ _ _ => (pe_c c_law_bank hr (by omega) rfl (pa_cons (pv 0) (pa_cons (pv 1) (pa_cons (pv 2) (pa_cons (pv 5) pa_nil))))))))
    (pss_one (ps_ret (pe_callB (kmax K rfl) rfl (by exact B.max) (by decide +kernel) (pa_cons (pe_op op_cat (pe_lst (pa_cons pe_int pa_nil)) (pe_lc rfl nd (kpi_list K (pv 4)) (blkOk_by (own := [("_law_bank_here", 7)]) (by rfl)) (fun _ _ _ _ _ => (pg_name (i := 7) nd rfl (Or.inr rfl))) (fun _ _ _ _ _ => pts_nil) (fun _ _ _ _ _ => (pe_callB (klen K) rfl (by exact B.len) (by decide +kernel) (pa_cons (pe_lc rfl nd (kpi_list K (pv 4)) (blkOk_by (own := [("_law_other_bank", 6)]) (by rfl)) (fun _ _ _ _ _ => (pg_name (i := 6) nd rfl (Or.inl rfl))) (fun _ _ _ _ _ => (pts_one (pt_cmpR (keq K hr.units) (pv 6) (pv 7) (nomark _)))) (fun _ _ _ _ _ => pe_int)) pa_nil))))) pa_nil))))), ?rd⟩)
  case len => rintro ds d ⟨cs, m, way, p, rfl, _, _, _, _, _, _, rfl⟩; rfl
  case rd =>
    rintro ds d ⟨cs, m, way, ps, rfl, hc, hm1, hm2, hw, hps, hl, rfl⟩
    refine tr_set (d := dLI (ps.map (bankF cs m way))) ((ed_map1 ps dP (fun p => .int (bankF cs m way p)) (src_tup (ed_var rfl)) (by omega) fun p hp => ed_call (ea_cons (ed_var rfl) (ea_cons (ed_var rfl) (ea_cons (ed_var rfl) (ea_cons (ed_var rfl) ea_nil)))) ⟨cs, m, way, p, rfl, hc, hm1, hm2, hw, hps p hp, rfl⟩).eq (by rw [dLI, List.map_map]; rfl)) ?_
    have hbl : (ps.map (bankF cs m way)).length ≤ 1000 := by rw [List.length_map]; exact hl
    generalize ps.map (bankF cs m way) = bs at hbl ⊢
    refine tr_ret (ed_CB (ea_cons ((ed_op (ed_lst (ea_cons ed_int ea_nil) (by decide)) (ed_map1 bs .int (fun b => .int (cnt bs b)) (src_list (ed_var rfl)) (by omega) fun b hb => (ed_CB (ea_cons (ed_lc1 bs .int (fun x => decide (x = b)) (fun _ => .int 1) (src_list (ed_var rfl)) (by omega) (fun x hx => et_test (ed_op (ed_var rfl) (ed_var rfl) rd_eqI)) fun x hx _ => ed_int) ea_nil) rdl_len).eq (by rw [List.length_map]; rfl)) (rd_cat (by rw [List.length_map, List.length_singleton]; omega))).eq (d' := dLI (0 :: bs.map (cnt bs))) (by
      show D.lst ([D.int 0] ++ _) = D.lst _
      rw [List.map_cons, List.map_map]
      rfl)) ea_nil) (rdl_maxI fun x hx => ?_)) rfl
    obtain ⟨b, _, rfl⟩ := List.mem_map.mp hx
    exact cnt_nonneg _ _
/-- all cells, ascending -/
def rowC (cs : List Int) (y : Nat) : List (Int × Int) := (List.range (colsF cs).toNat).map fun x => ((y : Int), ((x : Nat) : Int))
def allC (cs : List Int) : Nat → List (Int × Int)
  | 0 => []
  | y + 1 => allC cs y ++ rowC cs y
theorem allC_len (cs : List Int) (h : CsOk cs) : ∀ y, (allC cs y).length ≤ 16 * y
  | 0 => Nat.le_refl _
  | y + 1 => by
    have := allC_len cs h y
    have hb := h.b
    rw [allC, List.length_append, rowC, List.length_map, List.length_range]
    omega
def fCells : List D → D → Prop := fun ds d => ∃ cs, ds = [dI cs] ∧ CsOk cs ∧ d = .lst ((allC cs (rowsF cs).toNat).map dP)
theorem nd_law_cells : (["_law_counts_here", "_law_tall", "_law_broad", "_law_found", "_law_down", "_law_across"] : List PySem.Str).Nodup := by decide +kernel
theorem ok_law_cells (F : Df K mg "_law_cells" (top 43) ["_law_counts_here"] cdv) (B : Bn mg) (c_law_box : Cal P w K mg base 1 "_law_box" (SpD T fShape) []) : Cal P w K mg base (1 + 1) "_law_cells" (SpD T fCells) [] := by
  have nd := nd_law_cells
  refine calD (N := ["_law_counts_here", "_law_tall", "_law_broad", "_law_found", "_law_down", "_law_across"]) F (by decide +kernel) ?len (fun a A outer s H E hr => ⟨_, (pss_cons (ps_asg (pe_c c_law_box hr (by omega) rfl (pa_cons (pv 0) pa_nil)) (pg_tup rfl (pgs_cons (pg_name (i := 1) nd rfl (Or.inl rfl)) (pgs_cons (pg_name (i := 2) nd rfl (Or.inl rfl)) pgs_nil))))
    (pss_cons (ps_set (i := 3) nd rfl (Or.inl rfl) (pe_lst pa_nil))
    (pss_cons (ps_for PassesOwn.never rfl (pi_range1 rfl (by exact B.range) (pa_cons (pv 1) pa_nil)) (pg_name (i := 4) nd rfl (Or.inr rfl)) (pss_one (ps_set (i := 3) nd rfl (Or.inl rfl) (pe_op op_cat (pv 3) (pe_lc rfl nd (pi_range1 rfl (by exact B.range) (pa_cons (pv 2) pa_nil)) (blkOk_by (own := [("_law_across", 5)]) (by rfl)) (fun _ _ _ _ _ => (pg_name (i := 5) nd rfl (Or.inl rfl))) (fun _ _ _ _ _ => pts_nil) (fun _ _ _ _ _ => (pe_tup (pa_cons (pv 4) (pa_cons (pv 5) pa_nil)))))))))
    (pss_one (ps_ret (pv 3)))))), ?rd⟩)
  case len => rintro ds d ⟨x, rfl, _, rfl⟩; rfl
  case rd =>
    rintro ds d ⟨cs, rfl, hc, rfl⟩
    have hb := hc.b
    refine tr_tg (ed_call (ea_cons (ed_var rfl) ea_nil) ⟨cs, rfl, hc, rfl⟩) tg_tup2 ?_
    refine tr_set (d := .lst []) (ed_lst ea_nil (by simp)) ?_
    refine tr_seq (fun e2 c2 => ∃ s4 s5 : Slot, e2 = [.dat (dI cs), .dat (.int (rowsF cs)), .dat (.int (colsF cs)), .dat (.lst ((allC cs (rowsF cs).toNat).map dP)), s4, s5]) (tr_for (src_range1 (ea_cons (ed_var rfl) ea_nil) (by omega)).n ?_) ?_
    · rintro items rfl
      refine ⟨fun i e1 c1 => ∃ s4 s5 : Slot, e1 = [.dat (dI cs), .dat (.int (rowsF cs)), .dat (.int (colsF cs)), .dat (.lst ((allC cs i).map dP)), s4, s5], ⟨.emp, .emp, rfl⟩, ?_, ?_⟩
      · rintro i d e1 c1 hd ⟨s4, s5, rfl⟩
        have hi : i < (rowsF cs).toNat := by
          have := (List.getElem?_eq_some_iff.mp hd).1
          rw [List.length_map, List.length_range] at this
          exact this
        rw [List.getElem?_map, List.getElem?_range hi] at hd
        cases hd
        refine ⟨_, tg_name, ?_⟩
        have hz := allC_len cs hc i
        refine tr_set1 (d := .lst ((allC cs (i + 1)).map dP)) ((ed_op (ed_var rfl) (ed_map1 (List.range (colsF cs).toNat) (fun (x : Nat) => .int x) (fun x => dP ((i : Int), ((x : Nat) : Int))) (src_range1 (ea_cons (ed_var rfl) ea_nil) (by omega)) (by rw [List.length_range]; omega) fun x hx => ed_tup (ea_cons (ed_var rfl) (ea_cons (ed_var rfl) ea_nil)) (by simp)) (rd_cat (by rw [List.length_map, List.length_map, List.length_range]; omega))).eq ?_) ⟨_, _, rfl⟩
        rw [allC, List.map_append, rowC, List.map_map]
        rfl
      · rintro e1 c1 ⟨s4, s5, rfl⟩
        rw [List.length_map, List.length_range]
        exact ⟨_, _, rfl⟩
    · rintro e2 c2 ⟨s4, s5, rfl⟩
      exact tr_ret (ed_var rfl) rfl
def fGcd : List D → D → Prop := fun ds d => ∃ a b : Nat, ds = [.int a, .int b] ∧ d = .int (Nat.gcd b a : Nat)
theorem nd_law_shared_part_of : (["_law_one", "_law_two"] : List PySem.Str).Nodup := by decide +kernel
theorem ok_law_shared_part_of (F : Df K mg "_law_shared_part_of" (top 44) ["_law_one", "_law_two"] cdv) (B : Bn mg) : Cal P w K mg base (0 + 1) "_law_shared_part_of" (SpD T fGcd) [] := by
  have nd := nd_law_shared_part_of
  refine calD (N := ["_law_one", "_law_two"]) F (by decide +kernel) ?len (fun a A outer s H E hr => ⟨_, (pss_cons (ps_while PassesOwn.never (pt_cmpR (kne K hr.units) (pv 1) pe_int (nomark _)) (pss_one (ps_par (i := 0) (j := 1) rfl nd rfl rfl (by decide) rfl rfl (pa_cons (pv 1) (pa_cons (pe_op op_mod (pe_callTy call_int1 rfl (by exact B.int) (by decide +kernel) (pa_cons (pv 0) pa_nil)) (pv 1)) pa_nil)) (by rfl))))
    (pss_one (ps_ret (pv 0)))), ?rd⟩)
  case len => rintro ds d ⟨a, b, rfl, rfl⟩; rfl
  case rd =>
    rintro ds d ⟨a, b, rfl, rfl⟩
    refine tr_seq (fun e2 c2 => e2 = [.dat (.int (Nat.gcd b a : Nat)), .dat (.int 0)]) (tr_while (fun m e c => ∃ x y : Nat, e = [.dat (.int x), .dat (.int y)] ∧ Nat.gcd y x = Nat.gcd b a ∧ m = y) b ⟨a, b, rfl, rfl, rfl⟩ ?_) ?_
    · rintro m e1 c1 ⟨x, y, rfl, hg, hm⟩
      subst hm
      refine ⟨_, et_test (ed_op (ed_var rfl) ed_int rd_neI), fun h => ?_, fun h => ?_⟩
      · have hy : 0 < m := by
          simp at h
          omega
        refine tr_par1 (d1 := .int (m : Nat)) (d2 := .int ((x % m : Nat) : Int)) (ea_cons (ed_var rfl) (ea_cons ((ed_op (ed_CB (ea_cons (ed_var rfl) ea_nil) rdl_int) (ed_var rfl) (rd_mod (by omega))).eq (by rw [Int.natCast_emod])) ea_nil)) ⟨x % m, Nat.mod_lt _ hy, m, x % m, rfl, ?_, rfl⟩
        rw [← Nat.gcd_rec]
        exact hg
      · have hy : m = 0 := by
          simp at h
          omega
        subst hy
        rw [Nat.gcd_zero_left] at hg
        rw [hg]
        rfl
    · rintro e2 c2 rfl
      exact tr_ret (ed_var rfl) rfl
end
end K62


set_option Elab.async false
set_option linter.all false
set_option maxRecDepth 100000
set_option maxHeartbeats 4000000
/-! Plain mathematics: when the cost of a line is one; the three functions on what is right. -/
namespace K62
open PySem PySem.Spec PyProof.Rows L2 LamX C8 Fx
theorem dvd_iff {k s m : Nat} (hm : 0 < m) : m ∣ k * s ↔ m / Nat.gcd m s ∣ k := by
  have hg : 0 < Nat.gcd m s := Nat.gcd_pos_of_pos_left s hm
  have e1 : m = m / Nat.gcd m s * Nat.gcd m s := (Nat.div_mul_cancel (Nat.gcd_dvd_left m s)).symm
  have e2 : s = s / Nat.gcd m s * Nat.gcd m s := (Nat.div_mul_cancel (Nat.gcd_dvd_right m s)).symm
  constructor
  · intro h
    have h2 : m / Nat.gcd m s * Nat.gcd m s ∣ k * (s / Nat.gcd m s) * Nat.gcd m s := by
      rw [Nat.mul_assoc, ← e1, ← e2]
      exact h
    have h3 := Nat.dvd_of_mul_dvd_mul_right hg h2
    exact (Nat.coprime_div_gcd_div_gcd hg).dvd_of_dvd_mul_right h3
  · intro h
    rw [e1]
    have h2 : m / Nat.gcd m s * Nat.gcd m s ∣ k * Nat.gcd m s := Nat.mul_dvd_mul_right h _
    exact Nat.dvd_trans h2 (Nat.mul_dvd_mul_left k (Nat.gcd_dvd_right m s))
theorem emod_eq_iff {a : Int} {i j s m : Nat} (hij : i ≤ j) : (a + (i : Int) * s) % (m : Int) = (a + (j : Int) * s) % (m : Int) ↔ m ∣ (j - i) * s := by
  rw [eq_comm, Int.emod_eq_emod_iff_emod_sub_eq_zero]
  have e : a + (j : Int) * s - (a + (i : Int) * s) = (((j - i) * s : Nat) : Int) := by
    rw [Int.natCast_mul, Int.ofNat_sub hij, Int.sub_mul]
    omega
  rw [e, ← Int.natCast_emod]
  constructor
  · intro h
    exact Nat.dvd_of_mod_eq_zero (by exact_mod_cast h)
  · intro h
    have := Nat.mod_eq_zero_of_dvd h
    exact_mod_cast this
theorem nodup_iff (a : Int) (s m N : Nat) (hm : 0 < m) : ((List.range N).map fun (d : Nat) => (a + (d : Int) * s) % (m : Int)).Nodup ↔ N ≤ m / Nat.gcd m s := by
  have hg : 0 < Nat.gcd m s := Nat.gcd_pos_of_pos_left s hm
  have hq : 0 < m / Nat.gcd m s := Nat.div_pos (Nat.le_of_dvd hm (Nat.gcd_dvd_left m s)) hg
  unfold List.Nodup
  rw [List.pairwise_map, List.pairwise_iff_getElem]
  constructor
  · intro h
    apply Decidable.byContradiction
    intro hn
    have h1 : m / Nat.gcd m s < N := by omega
    have := h 0 (m / Nat.gcd m s) (by rw [List.length_range]; omega) (by rw [List.length_range]; exact h1) hq
    rw [List.getElem_range, List.getElem_range] at this
    apply this
    rw [emod_eq_iff (Nat.zero_le _), Nat.sub_zero, dvd_iff hm]
    exact Nat.dvd_refl _
  · intro h i j hi hj hij
    rw [List.length_range] at hi hj
    rw [List.getElem_range, List.getElem_range]
    intro e
    rw [emod_eq_iff (by omega), dvd_iff hm] at e
    have := Nat.le_of_dvd (by omega) e
    omega
theorem cnt_le_one {bs : List Int} (h : bs.Nodup) (b : Int) : cnt bs b ≤ 1 := by
  unfold cnt
  have : (bs.filter fun x => decide (x = b)).length ≤ 1 := by
    induction bs with
    | nil => exact Nat.zero_le _
    | cons x r ih =>
      have hx := List.nodup_cons.mp h
      rw [List.filter_cons]
      split
      · rename_i e
        have e : x = b := of_decide_eq_true e
        have : (r.filter fun x => decide (x = b)) = [] := List.filter_eq_nil_iff.mpr fun y hy z => by
          have z : y = b := of_decide_eq_true z
          exact hx.1 (by rw [e, ← z]; exact hy)
        rw [this]
        exact Nat.le_refl _
      · exact ih hx.2
  omega
theorem cnt_pos {bs : List Int} {b : Int} (h : b ∈ bs) : 1 ≤ cnt bs b := by
  unfold cnt
  have : 0 < (bs.filter fun x => decide (x = b)).length := List.length_pos_of_mem (List.mem_filter.mpr ⟨h, decide_eq_true rfl⟩)
  omega
theorem nodup_of_cnt : ∀ {bs : List Int}, (∀ b ∈ bs, cnt bs b ≤ 1) → bs.Nodup
  | [], _ => List.nodup_nil
  | x :: r, h => by
    have hx := h x List.mem_cons_self
    refine List.nodup_cons.mpr ⟨fun hm => ?_, nodup_of_cnt fun b hb => ?_⟩
    · have := cnt_pos hm
      have e : cnt (x :: r) x = cnt r x + 1 := by
        unfold cnt
        rw [List.filter_cons, if_pos (decide_eq_true rfl), List.length_cons]
        omega
      omega
    · have h1 := h b (List.mem_cons_of_mem _ hb)
      have : cnt r b ≤ cnt (x :: r) b := by
        unfold cnt
        rw [List.filter_cons]
        split
        · rw [List.length_cons]; omega
        · exact Int.le_refl _
      omega
theorem cost_one {bs : List Int} (hne : bs ≠ []) : costF bs = 1 ↔ bs.Nodup := by
  constructor
  · intro h
    refine nodup_of_cnt fun b hb => ?_
    rw [← h]
    exact maxI_le _ _ (List.mem_cons_of_mem _ (List.mem_map.mpr ⟨b, hb, rfl⟩))
  · intro h
    obtain ⟨b, r, rfl⟩ := List.exists_cons_of_ne_nil hne
    apply Int.le_antisymm
    · refine maxI_bound (by decide) fun y hy => ?_
      obtain ⟨c, _, rfl⟩ := List.mem_map.mp hy
      exact cnt_le_one h c
    · exact Int.le_trans (cnt_pos List.mem_cons_self) (maxI_le _ _ (List.mem_cons_of_mem _ (List.mem_map.mpr ⟨b, List.mem_cons_self, rfl⟩)))
/-! ### what is right is taken -/
theorem csOf_dI (cs : List Int) : csOf (dI cs) = cs := by
  show (cs.map D.int).map intOf = cs
  rw [List.map_map]
  exact List.map_id' cs
theorem all_btw {lo hi : Int} {ns : List Int} (h : ∀ x ∈ ns, lo ≤ x ∧ x ≤ hi) : ((ns.map D.int).all fun e => btw e lo hi) = true := by
  rw [List.all_map, List.all_eq_true]
  intro x hx
  obtain ⟨h1, h2⟩ := h x hx
  show (decide (lo ≤ x) && decide (x ≤ hi)) = true
  rw [decide_eq_true h1, decide_eq_true h2]; rfl
theorem okC_dI {cs : List Int} (h : CsOk cs) : okC (dI cs) = true := by
  show (decide (1 ≤ (cs.map D.int).length) && decide ((cs.map D.int).length ≤ 2) && (cs.map D.int).all fun e => btw e 1 16) = true
  rw [all_btw h.2, List.length_map]
  rcases h.1 with e | e <;> rw [e] <;> rfl
theorem isLay_d {cs : List Int} {m : Int} {way : Way} (h : way.Ok cs m) : isLay cs m way.d = true := by
  cases way with
  | pad n =>
    show (decide (0 ≤ n) && decide (n ≤ 31)) = true
    rw [decide_eq_true h.1, decide_eq_true h.2]; rfl
  | tur n =>
    show (decide (0 ≤ n) && decide (n ≤ 31)) = true
    rw [decide_eq_true h.1, decide_eq_true h.2]; rfl
  | lis ns =>
    show (decide ((((ns.map D.int).length : Nat) : Int) = rowsF cs * colsF cs) && (ns.map D.int).all fun e => btw e 0 (m - 1)) = true
    rw [List.length_map, decide_eq_true h.1, all_btw fun x hx => ⟨(h.2 x hx).1, by have := (h.2 x hx).2; omega⟩]; rfl
theorem wayOf_d (way : Way) : wayOf way.d = way := by
  cases way with
  | pad n => rfl
  | tur n => rfl
  | lis ns => exact congrArg Way.lis (csOf_dI ns)
theorem lotOf_d (ps : List (Int × Int)) : lotOf (dLot ps) = ps := by
  show (ps.map dP).map cellOf = ps
  rw [List.map_map]
  exact List.map_id' ps
theorem isCell_d {cs : List Int} {p : Int × Int} (h : InC cs p) : isCell cs (dP p) = true := by
  obtain ⟨h1, h2, h3, h4⟩ := h
  show ((decide (0 ≤ p.1) && decide (p.1 ≤ rowsF cs - 1)) && (decide (0 ≤ p.2) && decide (p.2 ≤ colsF cs - 1))) = true
  rw [decide_eq_true h1, decide_eq_true h3, decide_eq_true (by omega), decide_eq_true (by omega)]; rfl
theorem isLot_d {cs : List Int} {ps : List (Int × Int)} (h : ∀ p ∈ ps, InC cs p) (ha : ascC ps = true) : isLot cs (dLot ps) = true := by
  show ((ps.map dP).all (isCell cs) && ascC (lotOf (dLot ps))) = true
  rw [lotOf_d, ha, List.all_map, Bool.and_true, List.all_eq_true]
  exact fun p hp => isCell_d (h p hp)
theorem btw_m {m : Int} (h1 : 1 ≤ m) (h2 : m ≤ 32) : btw (.int m) 1 32 = true := by
  show (decide (1 ≤ m) && decide (m ≤ 32)) = true
  rw [decide_eq_true h1, decide_eq_true h2]; rfl
theorem rLay_ok {ec : Ec} {cs : List Int} {m : Int} {x : D} (hc : CsOk cs) (h1 : 1 ≤ m) (h2 : m ≤ 32) : rLay ec (dI cs) (.int m) x = .ret (.bl (isLay cs m x)) := by
  unfold rLay
  rw [okC_dI hc, btw_m h1 h2, csOf_dI]; rfl
theorem rBank_ok {ec : Ec} {cs : List Int} {m : Int} {way : Way} {p : Int × Int} (hc : CsOk cs) (h1 : 1 ≤ m) (h2 : m ≤ 32) (hw : way.Ok cs m) (hp : InC cs p) : rBank ec (dI cs) (.int m) way.d (dP p) = .ret (.int (bankF cs m way p)) := by
  unfold rBank
  rw [okC_dI hc, btw_m h1 h2, csOf_dI, show intOf (.int m) = m from rfl, isLay_d hw, isCell_d hp, wayOf_d]; rfl
theorem rCost_ok {ec : Ec} {cs : List Int} {m : Int} {way : Way} {ps : List (Int × Int)} (hc : CsOk cs) (h1 : 1 ≤ m) (h2 : m ≤ 32) (hw : way.Ok cs m) (hp : ∀ p ∈ ps, InC cs p) (ha : ascC ps = true) : rCost ec (dI cs) (.int m) way.d (dLot ps) = .ret (.int (costF (ps.map (bankF cs m way)))) := by
  unfold rCost
  rw [okC_dI hc, btw_m h1 h2, csOf_dI, show intOf (.int m) = m from rfl, isLay_d hw, isLot_d hp ha, wayOf_d, lotOf_d]; rfl
theorem pl_ints {ns : List Int} (h : ns.length ≤ 1000) : pl (dI ns) = true := pl_tup_of (fun d hd => by
  obtain ⟨i, _, rfl⟩ := List.mem_map.mp hd
  exact pl_int) (by rw [List.length_map]; exact h)
theorem CsOk.pl {cs : List Int} (h : CsOk cs) : K62.pl (dI cs) = true := pl_ints (by have := h.1; omega)
theorem area_le {cs : List Int} (h : CsOk cs) : 0 ≤ rowsF cs * colsF cs ∧ rowsF cs * colsF cs ≤ 256 := by
  obtain ⟨h1, h2, h3, h4⟩ := h.b
  exact ⟨Int.mul_nonneg (by omega) (by omega), Int.le_trans (Int.mul_le_mul h2 h4 (by omega) (by decide)) (by decide)⟩
theorem Way.pl {cs : List Int} {m : Int} {way : Way} (hc : CsOk cs) (h : way.Ok cs m) : K62.pl way.d = true := by
  cases way with
  | pad n => exact pl_tup_of (fun d hd => by
      rcases List.mem_cons.mp hd with rfl | hd
      · exact pl_str
      · rw [List.mem_singleton.mp hd]; exact pl_int) (by simp)
  | tur n => exact pl_tup_of (fun d hd => by
      rcases List.mem_cons.mp hd with rfl | hd
      · exact pl_str
      · rw [List.mem_singleton.mp hd]; exact pl_int) (by simp)
  | lis ns => exact pl_tup_of (fun d hd => by
      rcases List.mem_cons.mp hd with rfl | hd
      · exact pl_str
      · rw [List.mem_singleton.mp hd]
        have := area_le hc
        have := h.1
        exact pl_ints (by omega)) (by simp)
theorem pl_cells {ps : List (Int × Int)} (h : ps.length ≤ 1000) : pl (dLot ps) = true := pl_tup_of (fun d hd => by
  obtain ⟨p, _, rfl⟩ := List.mem_map.mp hd
  exact pl_ints (by simp)) (by rw [List.length_map]; exact h)
/-! ### ascending cells -/
def ltC (a b : Int × Int) : Prop := a.1 < b.1 ∨ (a.1 = b.1 ∧ a.2 < b.2)
theorem lex_ltC {a b : Int × Int} (h : ltC a b) : HT.lexLt [a.1, a.2] [b.1, b.2] = true := by
  rw [HT.lexLt_cons, HT.lexLt_cons, HT.lexLt_nil_nil]
  rcases h with h | ⟨h1, h2⟩
  · rw [if_neg (by omega), decide_eq_true h]
  · rw [if_pos h1, if_neg (by omega), decide_eq_true h2]
theorem asc_of : ∀ {ps : List (Int × Int)}, ps.Pairwise ltC → ascC ps = true
  | [], _ => rfl
  | [_], _ => rfl
  | a :: b :: r, h => by
    have h2 := List.pairwise_cons.mp h
    have ih := asc_of h2.2
    show (HT.lexLt [a.1, a.2] [b.1, b.2] && ascC (b :: r)) = true
    rw [lex_ltC (h2.1 b List.mem_cons_self), ih]; rfl
theorem row_in {cs : List Int} {y : Nat} (hy : (y : Int) < rowsF cs) : ∀ p ∈ rowC cs y, InC cs p ∧ p.1 = y := fun p hp => by
  obtain ⟨x, hx, rfl⟩ := List.mem_map.mp hp
  have := List.mem_range.mp hx
  exact ⟨⟨by show (0 : Int) ≤ (y : Int); omega, hy, by show (0 : Int) ≤ (x : Int); omega, by show (x : Int) < _; omega⟩, rfl⟩
theorem row_asc (cs : List Int) (y : Nat) : (rowC cs y).Pairwise ltC := by
  unfold rowC
  rw [List.pairwise_map]
  exact List.Pairwise.imp (fun {a b} (h : a < b) => .inr ⟨rfl, by show (a : Int) < (b : Int); omega⟩) List.pairwise_lt_range
theorem all_in {cs : List Int} : ∀ {y : Nat}, (y : Int) ≤ rowsF cs → ∀ p ∈ allC cs y, InC cs p ∧ p.1 < y
  | 0, _, p, hp => by cases hp
  | y + 1, hy, p, hp => by
    rcases List.mem_append.mp hp with h | h
    · obtain ⟨h1, h2⟩ := all_in (y := y) (by omega) p h
      exact ⟨h1, by omega⟩
    · obtain ⟨h1, h2⟩ := row_in (by omega) p h
      exact ⟨h1, by omega⟩
theorem all_asc {cs : List Int} : ∀ {y : Nat}, (y : Int) ≤ rowsF cs → (allC cs y).Pairwise ltC
  | 0, _ => .nil
  | y + 1, hy => by
    rw [allC, List.pairwise_append]
    refine ⟨all_asc (by omega), row_asc cs y, fun a ha b hb => .inl ?_⟩
    have h1 := (all_in (by omega) a ha).2
    have h2 := (row_in (by omega) b hb).2
    omega
end K62

set_option Elab.async false
set_option linter.all false
set_option maxRecDepth 100000
set_option maxHeartbeats 4000000
/-! The law's layings, lines, lots that are none. -/
namespace K62
open PySem PySem.Spec PyProof.Rows L2 LamX C8 Fx
section
variable {P : Program} {w : World} {K : PySem.W.Frag} {mg : Str → Option Value} {base : Heap} {T : List (Addr × Str)} {cdv : Value} {c0 P0 : Addr} {W0' : Wld T} {S lw lc : Addr} {cells : List Int} {ec : Ec}
theorem eqv_bl {a b : Bool} : D.eqv (.bl a) (.bl b) = (a == b) := by unfold D.eqv; rw [D.py, D.py, PyData.eqv]
theorem rd_inS {W : Wld T} {s : Str} {ss : List Str} : RD2 W (rIn K false) (.str s) (.tup (ss.map .str)) (.bl (decide (s ∈ ss))) := fun c G H v1 v2 g j r1 r2 Q q => by
  cases r1
  cases r2 with
  | @tup a xs _ h2 l2 =>
    have ex : ∀ (ss : List Str) (xs : List V), RpL G xs (ss.map D.str) → xs = ss.map V.str := by
      intro ss
      induction ss with
      | nil => intro xs h; cases h; rfl
      | cons z r ih =>
        intro xs h
        cases h with
        | cons h1 h3 =>
          cases h1
          rw [ih _ h3]; rfl
    obtain rfl := ex ss xs l2
    have e : ∀ ss : List Str, inV (.str s) (ss.map V.str) = decide (s ∈ ss) := by
      intro ss
      induction ss with
      | nil => simp [inV]
      | cons n r ih =>
        unfold inV at ih ⊢
        rw [List.map_cons, List.any_cons, ih]
        show ((n == s) || decide (s ∈ r)) = decide (s ∈ n :: r)
        rw [Bool.eq_iff_iff]
        simp only [Bool.or_eq_true, beq_iff_eq, decide_eq_true_eq, List.mem_cons]
        exact ⟨fun h => h.elim (fun e => .inl e.symm) .inr, fun h => h.elim (fun e => .inl e.symm) .inr⟩
    refine ⟨_, _, rfl, .inr (sqT_of g h2), rfl, by
      rw [List.all_eq_true]
      intro x hx
      obtain ⟨i, _, rfl⟩ := List.mem_map.mp hx
      rfl, ?_⟩
    rw [e]
    exact q.here g j (.bl _)
theorem btw_and {W : Wld T} {x : D} {lo hi : Int} (hx : pl x = true) {te : TE} {env : Env'} (he : ED W te env x) (hb : ED W (tCall (SpD T fIsNumber) [] C8.E0 (tCons te tNil)) env (.bl (isNum x))) :
    ED W (tAndV (tCall (SpD T fIsNumber) [] C8.E0 (tCons te tNil)) (tChain (rI0 fun i j => .bl (decide (i ≤ j))) (rI0 fun i j => .bl (decide (i ≤ j))) (tC (.int lo)) te (tC (.int hi)))) env (.bl (btw x lo hi)) := by
  cases hn : isNum x with
  | false =>
    refine (ed_andV (b := false) hb fun h => by rw [hn] at h; cases h).eq ?_
    rw [hn]
    cases x <;> first | rfl | cases hn
  | true =>
    obtain ⟨i, rfl⟩ := isNum_ex hn
    exact (ed_andV hb fun _ => et_chain ed_int he (fun _ => ed_int) rd_le fun _ => rd_le).eq rfl
theorem nd_law_is_way : (["_law_counts_here", "_law_many_here", "_law_item", "_law_tall", "_law_broad", "_law_number"] : List PySem.Str).Nodup := by decide +kernel
theorem ok_law_is_way (F : Df K mg "_law_is_way" (top 42) ["_law_counts_here", "_law_many_here", "_law_item"] cdv) (B : Bn mg) (c_law_is_whole : Cal P w K mg base 1 "_law_is_whole" (SpD T fIsNumber) []) (c_law_box : Cal P w K mg base 1 "_law_box" (SpD T fShape) []) : Cal P w K mg base (1 + 1) "_law_is_way" (SpD T fIsLay) [] := by
  have nd := nd_law_is_way
  refine calD (N := ["_law_counts_here", "_law_many_here", "_law_item", "_law_tall", "_law_broad", "_law_number"]) F (by decide +kernel) ?len (fun a A outer s H E hr => ⟨_, (pss_cons (ps_if (PW.pt (pw_or (pt_not (pt_val (pe_callB (kisi K) rfl (by exact B.isinstance) (by decide +kernel) (pa_cons (pv 2) (pa_cons (pe_bltn (v := .ty "tuple") rfl (by exact B.tuple) (by decide +kernel) rfl) pa_nil))))) (pw_or (pt_cmpR (kne K hr.units) (pe_callB (klen K) rfl (by exact B.len) (by decide +kernel) (pa_cons (pv 2) pa_nil)) pe_int (nomark _)) (pw_or1 (pt_not (pt_val (pe_callB (kisi K) rfl (by exact B.isinstance) (by decide +kernel) (pa_cons (pe_ix (kix K) (pv 2) pe_int (fun _ _ => rfl)) (pa_cons (pe_bltn (v := .ty "str") rfl (by exact B.str) (by decide +kernel) rfl) pa_nil))))))))) (pss_one (ps_ret pe_bl)) pss_nil)
    (pss_cons (ps_if (pt_cmpR (kin K) (pe_ix (kix K) (pv 2) pe_int (fun _ _ => rfl)) (pe_tup (pa_cons pe_str (pa_cons pe_str pa_nil))) (by rfl)) (pss_one (ps_ret (pe_and (pe_c c_law_is_whole hr (by omega) rfl (pa_cons (pe_ix (kix K) (pv 2) pe_int (fun _ _ => rfl)) pa_nil)) (pe_one (pe_chain op_le op_le pe_int (pe_ix (kix K) (pv 2) pe_int (fun _ _ => rfl)) pe_int))))) pss_nil)
    (pss_cons (ps_asg (pe_c c_law_box hr (by omega) rfl (pa_cons (pv 0) pa_nil)) (pg_tup rfl (pgs_cons (pg_name (i := 3) nd rfl (Or.inl rfl)) (pgs_cons (pg_name (i := 4) nd rfl (Or.inl rfl)) pgs_nil))))
    (pss_cons (ps_if (PW.pt (pw_or (pt_cmpR op_ne (pe_ix (kix K) (pv 2) pe_int (fun _ _ => rfl)) pe_str (nomark _)) (pw_or (pt_not (pt_val (pe_callB (kisi K) rfl (by exact B.isinstance) (by decide +kernel) (pa_cons (pe_ix (kix K) (pv 2) pe_int (fun _ _ => rfl)) (pa_cons (pe_bltn (v := .ty "tuple") rfl (by exact B.tuple) (by decide +kernel) rfl) pa_nil))))) (pw_or1 (pt_cmpR (kne K hr.units) (pe_callB (klen K) rfl (by exact B.len) (by decide +kernel) (pa_cons (pe_ix (kix K) (pv 2) pe_int (fun _ _ => rfl)) pa_nil)) (pe_op op_mulW (pv 3) (pv 4)) (nomark _)))))) (pss_one (ps_ret pe_bl)) pss_nil)
    (pss_one (ps_ret (pe_cmpR (keq K hr.units) (pe_lc rfl nd (kpi_tup K (pe_ix (kix K) (pv 2) pe_int (fun _ _ => rfl))) (blkOk_by (own := [("_law_number", 5)]) (by rfl)) (fun _ _ _ _ _ => (pg_name (i := 5) nd rfl (Or.inl rfl))) (fun _ _ _ _ _ => (pts_one (PW.pt (pw_or (pt_not (pt_val (pe_c c_law_is_whole hr (by omega) rfl (pa_cons (pv 5) pa_nil)))) (pw_or (pt_cmpR op_lt (pv 5) pe_int (nomark _)) (pw_or1 (pt_cmpR op_ge (pv 5) (pv 1) (nomark _)))))))) (fun _ _ _ _ _ => pe_int)) (pe_lst pa_nil) (nomark _)))))))), ?rd⟩)
  case len => rintro ds d ⟨cs, m, x, rfl, _, _, rfl⟩; rfl
  case rd =>
    rintro ds d ⟨cs, m, x, rfl, hc, hx, rfl⟩
    refine tr_when (et_strPair rfl hx) (fun h => tr_ret ed_bl ?_) (fun h => ?_)
    · show D.bl false = .bl (isLay cs m x)
      have h : strPair x = false := by simpa using h
      unfold isLay
      split
      · cases h
      · rfl
    · obtain ⟨s, y, rfl⟩ := strPair_ex (by simpa using h)
      obtain ⟨hl, hp⟩ := pl_tup hx
      have hy : pl y = true := hp y (by simp)
      refine tr_when (b := decide (s ∈ [("padded" : Str), "turned"])) (et_test (ed_op (ed_op (ed_var rfl) ed_int (rd_ixT (i := 0) rfl)) (ed_tup (ea_cons ed_str (ea_cons ed_str ea_nil)) (by simp)) (rd_inS (ss := ["padded", "turned"])))) (fun h => ?_) (fun h => ?_)
      · have hs : s = "padded" ∨ s = "turned" := by simpa using h
        refine tr_ret (btw_and hy (ed_op (ed_var rfl) ed_int (rd_ixT (i := 1) rfl)) (ed_call (ea_cons (ed_op (ed_var rfl) ed_int (rd_ixT (i := 1) rfl)) ea_nil) ⟨y, rfl, hy, rfl⟩)) ?_
        show D.bl (btw y 0 31) = .bl (isLay cs m (.tup [.str s, y]))
        rw [isLay_eq, if_pos hs]
      · have hs : ¬ (s = "padded" ∨ s = "turned") := by simpa using h
        refine tr_tg (ed_call (ea_cons (ed_var rfl) ea_nil) ⟨cs, rfl, hc, rfl⟩) tg_tup2 ?_
        have e0 : isLay cs m (.tup [.str s, y]) = if s = "listed" then lisOk cs m y else false := by rw [isLay_eq, if_neg hs]
        by_cases hl : s = "listed"
        · subst hl
          rw [if_pos rfl] at e0
          cases hT : isT y with
          | false =>
            refine tr_when (et_or (b := true) (et_test (ed_op (ed_op (ed_var rfl) ed_int (rd_ixT (i := 0) rfl)) ed_str rd_neS)) fun h => (et_or (b := false) (et_not (et_B (ed_CB (ea_cons (ed_op (ed_var rfl) ed_int (rd_ixT (i := 1) rfl)) (ea_cons ed_raw ea_nil)) (rdl_isT hy)))) fun h => by rw [hT] at h; cases h).eq (by rw [hT]; rfl)) (fun _ => tr_ret ed_bl ?_) (fun h => by simp at h)
            show D.bl false = .bl (isLay cs m (.tup [.str "listed", y]))
            rw [e0]
            cases y <;> first | rfl | cases hT
          | true =>
            obtain ⟨es, rfl⟩ := isT_ex hT
            obtain ⟨hl1, hp1⟩ := pl_tup hy
            refine tr_when (et_or (et_test (ed_op (ed_op (ed_var rfl) ed_int (rd_ixT (i := 0) rfl)) ed_str rd_neS)) fun h => et_or (et_not (et_B (ed_CB (ea_cons (ed_op (ed_var rfl) ed_int (rd_ixT (i := 1) rfl)) (ea_cons ed_raw ea_nil)) (rdl_isT hy)))) fun h => et_B (ed_op (ed_CB (ea_cons (ed_op (ed_var rfl) ed_int (rd_ixT (i := 1) rfl)) ea_nil) rdl_lenT) (ed_op (ed_var rfl) (ed_var rfl) (rd_mulB (by have := hc.b; omega) (by have := hc.b; omega))) rd_neI)) (fun h => tr_ret ed_bl ?_) (fun h => ?_)
            · show D.bl false = .bl (isLay cs m (.tup [.str "listed", .tup es]))
              have h : ¬ ((es.length : Nat) : Int) = rowsF cs * colsF cs := by simpa [isT] using h
              rw [e0, lisOk, decide_eq_false h]; rfl
            · have h : ((es.length : Nat) : Int) = rowsF cs * colsF cs := by simpa [isT] using h
              refine tr_ret ((ed_op (ed_lc1 es id (fun e => !btw e 0 (m - 1)) (fun _ => .int 1) (src_tup (by rw [List.map_id]; exact ed_op (ed_var rfl) ed_int (rd_ixT (i := 1) rfl))) (by omega) (fun e he => ?_) fun e he _ => ed_int) (ed_lst ea_nil (by simp)) (rd_eqD (n := 1) (m := 1) (by
                show okL 0 _ = true
                exact okL_map (fun _ => ok_int) _) (by rfl))).eq (d' := .bl (es.all fun e => btw e 0 (m - 1))) ?_) ?_
              · have hpe := hp1 e he
                cases hn : isNum e with
                | false =>
                  refine (et_or (b := true) (et_not (et_B (ed_call (ea_cons (ed_var rfl) ea_nil) ⟨e, rfl, hpe, rfl⟩))) fun h => by rw [hn] at h; cases h).eq ?_
                  rw [hn]
                  cases e <;> first | rfl | cases hn
                | true =>
                  obtain ⟨i, rfl⟩ := isNum_ex hn
                  refine (et_or (et_not (et_B (ed_call (ea_cons (ed_var rfl) ea_nil) ⟨_, rfl, hpe, rfl⟩))) fun h => et_or (et_test (ed_op (ed_var rfl) ed_int rd_lt)) fun _ => et_test (ed_op (ed_var rfl) (ed_var rfl) rd_ge)).eq ?_
                  show (!true || (decide (i < 0) || decide (m ≤ i))) = !(decide (0 ≤ i) && decide (i ≤ m - 1))
                  rw [Bool.eq_iff_iff]
                  simp
                  omega
              · rw [eqv_lst_nil]
                congr 1
                rw [List.isEmpty_map, Bool.eq_iff_iff, List.isEmpty_iff, List.filter_eq_nil_iff, List.all_eq_true]
                simp
              · show D.bl _ = .bl (isLay cs m (.tup [.str "listed", .tup es]))
                rw [e0, lisOk, decide_eq_true h, Bool.true_and]
        · rw [if_neg hl] at e0
          refine tr_when (et_or (b := false) (et_test (ed_op (ed_op (ed_var rfl) ed_int (rd_ixT (i := 0) rfl)) ed_str rd_neS)) fun h => by simp [hl] at h) (fun _ => tr_ret ed_bl ?_) (fun h => by simp [hl] at h)
          show D.bl false = .bl (isLay cs m (.tup [.str s, y]))
          rw [e0]
def fWay (S : Addr) : List D → (D → Prop) → Prop := fun ds P => ∃ cs m, ds = [.raw (.ref S), dI cs, .int m] ∧ CsOk cs ∧ 1 ≤ m ∧ m ≤ 32 ∧ ∀ way : Way, way.Ok cs m → P way.d
theorem nd_law_way : (["_law_draw", "_law_counts_here", "_law_many_here", "_law_tall", "_law_broad", "_law_way_here", "_law_lap"] : List PySem.Str).Nodup := by decide +kernel
theorem ok_law_way (F : Df K mg "_law_way" (top 41) ["_law_draw", "_law_counts_here", "_law_many_here"] cdv) (B : Bn mg) (c_law_take : Cal P w K mg base 3 "_law_take" (SpSx T 1 fDraw) []) (c_law_pick : Cal P w K mg base 4 "_law_pick" (SpSx T 1 fPick) []) (c_law_box : Cal P w K mg base 1 "_law_box" (SpD T fShape) []) : Cal P w K mg base (4 + 1) "_law_way" (SpSx T 300 fWay) [] := by
  have nd := nd_law_way
  refine calSx (N := ["_law_draw", "_law_counts_here", "_law_many_here", "_law_tall", "_law_broad", "_law_way_here", "_law_lap"]) F (by decide +kernel) ?len (fun a A outer s H E hr => ⟨_, (pss_cons (ps_asg (pe_c c_law_box hr (by omega) rfl (pa_cons (pv 1) pa_nil)) (pg_tup rfl (pgs_cons (pg_name (i := 3) nd rfl (Or.inl rfl)) (pgs_cons (pg_name (i := 4) nd rfl (Or.inl rfl)) pgs_nil))))
    (pss_cons (ps_set (i := 5) nd rfl (Or.inl rfl) (pe_c c_law_take hr (by omega) rfl (pa_cons (pv 0) (pa_cons pe_int pa_nil))))
    (pss_cons (ps_if (pt_cmpR (keq K hr.units) (pv 5) pe_int (nomark _)) (pss_one (ps_ret (pe_tup (pa_cons pe_str (pa_cons (pe_callTy (ktuple K) rfl (by exact B.tuple) (by decide +kernel) (pa_cons (pe_lc rfl nd (pi_range1 rfl (by exact B.range) (pa_cons (pe_op op_mulW (pv 3) (pv 4)) pa_nil)) (blkOk_by (own := [("_law_lap", 6)]) (by rfl)) (fun _ _ _ _ _ => (pg_name (i := 6) nd rfl (Or.inl rfl))) (fun _ _ _ _ _ => pts_nil) (fun _ _ _ _ _ => (pe_c c_law_take hr (by omega) rfl (pa_cons (pv 0) (pa_cons (pv 2) pa_nil))))) pa_nil)) pa_nil))))) pss_nil)
    (pss_one (ps_ret (pe_tup (pa_cons (pe_ix (kix K) (pe_lst (pa_cons pe_str (pa_cons pe_str pa_nil))) (pv 5) (fun _ _ => rfl)) (pa_cons (pe_c c_law_pick hr (by omega) rfl (pa_cons (pv 0) (pa_cons (pe_lst (pa_cons pe_int (pa_cons pe_int (pa_cons pe_int (pa_cons pe_int (pa_cons pe_int (pa_cons (pe_c c_law_take hr (by omega) rfl (pa_cons (pv 0) (pa_cons pe_int pa_nil))) pa_nil))))))) pa_nil))) pa_nil)))))))), ?rd⟩)
  case len => rintro S ds d ⟨cs, m, rfl, _⟩; rfl
  case rd =>
    rintro W0' S lw lc cells ds P c ⟨cs, m, rfl, hc, hm1, hm2, hP⟩ hcap
    have hcap : c + 300 ≤ 1099511627776 := hcap
    have hb := hc.b
    have ha := area_le hc
    refine tr_tg (ed_call (ea_cons (ed_var rfl) ea_nil) ⟨cs, rfl, hc, rfl⟩) tg_tup2 ?_
    refine tr_setN (n := 1) (en_take (n := 3) rfl ed_int (by decide) (by decide) (by show c + 1 ≤ 1099511627776; omega)) ?_
    rintro _ ⟨x, rfl, x0, x1⟩
    refine tr_when (et_test (ed_op (ed_var rfl) ed_int rd_eqI)) (fun h => ?_) (fun h => ?_)
    · refine tr_retN (n := 0 + (0 + 1 * (rowsF cs * colsF cs).toNat)) (P := fun d => ∃ ns : List Int, d = (Way.lis ns).d ∧ (Way.lis ns).Ok cs m) ((en_tup (P := fun l => ∃ ns : List Int, l = [.str "listed", dI ns] ∧ (Way.lis ns).Ok cs m) (EAN.imp1 (ean_cons (ed_str (s := "listed")).n (ean_cons (P := fun d => ∃ ns : List Int, d = dI ns ∧ (Way.lis ns).Ok cs m) (en_CB (P' := fun d => ∃ ns : List Int, d = dI ns ∧ (Way.lis ns).Ok cs m) (P := fun l => ∃ ns : List Int, l = [dLI ns] ∧ (Way.lis ns).Ok cs m) (EAN.imp1 (ean_cons (en_mapN (n := (rowsF cs * colsF cs).toNat) (ke := 1) (Pe := fun d => ∃ x : Int, d = .int x ∧ 0 ≤ x ∧ x < m) (P0 := fun l => l = (List.range (rowsF cs * colsF cs).toNat).map fun (i : Nat) => .int i) (src_range1 (ea_cons (ed_op (ed_var rfl) (ed_var rfl) (rd_mulB (by omega) (by omega))) ea_nil) (by omega)).n (fun l e => by rw [e, List.length_map, List.length_range]; exact Nat.le_refl _) (by omega) (fun l e d hd c' hc' => en_take (n := m) rfl (ed_var rfl) (by omega) (by omega) (by show c' + 1 ≤ 1099511627776; omega))) ean_nil) (by
            rintro l ⟨d, ds, rfl, ⟨l0, es, e0, rfl, hl, hes⟩, rfl⟩
            obtain ⟨ns, rfl, hns⟩ : ∃ ns : List Int, es = ns.map .int ∧ ∀ x ∈ ns, 0 ≤ x ∧ x < m := by
              clear hl
              induction es with
              | nil => exact ⟨[], rfl, fun x h => by cases h⟩
              | cons e r ih =>
                obtain ⟨x, rfl, hx⟩ := hes e List.mem_cons_self
                obtain ⟨ns, rfl, h2⟩ := ih fun y hy => hes y (List.mem_cons_of_mem _ hy)
                exact ⟨x :: ns, rfl, fun y hy => (List.mem_cons.mp hy).elim (fun z => z ▸ hx) (h2 y)⟩
            refine ⟨ns, rfl, ?_, hns⟩
            rw [List.length_map, e0, List.length_map, List.length_range] at hl
            omega)) (by
          rintro l ⟨ns, rfl, h⟩
          exact ⟨dI ns, rdl_tupL, ns, rfl, h⟩)) ean_nil)) (by
        rintro l ⟨d, ds, rfl, rfl, d2, ds2, rfl, ⟨ns, rfl, h⟩, rfl⟩
        exact ⟨ns, rfl, h⟩)) (by
        rintro l ⟨ns, rfl, h⟩
        simp)).imp (by omega) (by
        rintro d ⟨l, rfl, ns, rfl, h⟩
        exact ⟨ns, rfl, h⟩)) ?_
      rintro d ⟨ns, rfl, h⟩
      exact ⟨hP _ h, by omega⟩
    · have hx : x = 0 ∨ x = 1 := by
        have : x ≠ 2 := by simpa using h
        omega
      refine tr_retN (n := 0 + (((0 + (0 + (0 + (0 + (0 + (0 + (1 + 0))))))) + 0) + 1)) (P := fun d => ∃ way : Way, d = way.d ∧ way.Ok cs m) ((en_tup (P := fun l => ∃ (s : Str) (n : Int), l = [.str s, .int n] ∧ (s = "padded" ∨ s = "turned") ∧ 0 ≤ n ∧ n ≤ 31) (EAN.imp1 (ean_cons (P := fun d => ∃ s : Str, d = .str s ∧ (s = "padded" ∨ s = "turned")) (k := 0) (by
          rcases hx with rfl | rfl
          · exact (ed_op (ed_lst (ea_cons ed_str (ea_cons ed_str ea_nil)) (by simp)) (ed_var rfl) (rd_ixL (i := 0) (d := .str "padded") rfl)).n.imp (Nat.le_refl _) fun d e => ⟨_, e, .inl rfl⟩
          · exact (ed_op (ed_lst (ea_cons ed_str (ea_cons ed_str ea_nil)) (by simp)) (ed_var rfl) (rd_ixL (i := 1) (d := .str "turned") rfl)).n.imp (Nat.le_refl _) fun d e => ⟨_, e, .inr rfl⟩) (ean_cons (P := fun d => ∃ n : Int, d = .int n ∧ 0 ≤ n ∧ n ≤ 31) (en_callX (k := 1) (f := fPick) (ean_cons (ed_var rfl).n (ean_cons (en_lst (P := fun l => ∃ n : Int, l = [.int 0, .int 1, .int 2, .int 3, .int 31, .int n] ∧ 0 ≤ n ∧ n ≤ 31) (EAN.imp1 (ean_cons (ed_int (i := 0)).n (ean_cons (ed_int (i := 1)).n (ean_cons (ed_int (i := 2)).n (ean_cons (ed_int (i := 3)).n (ean_cons (ed_int (i := 31)).n (ean_cons (en_take (n := 32) rfl ed_int (by decide) (by decide) (by show _ + 1 ≤ 1099511627776; omega)) ean_nil)))))) (by
            rintro l ⟨d0, l0, rfl, rfl, d1, l1, rfl, rfl, d2, l2, rfl, rfl, d3, l3, rfl, rfl, d4, l4, rfl, rfl, d5, l5, rfl, ⟨n, rfl, n0, n1⟩, rfl⟩
            exact ⟨n, rfl, n0, by omega⟩)) (by
            rintro l ⟨n, rfl, _⟩
            simp)) ean_nil)) (by
          rintro l ⟨d1, l1, rfl, rfl, d2, l2, rfl, ⟨l3, rfl, n, rfl, n0, n1⟩, rfl⟩
          refine ⟨_, rfl, by simp, by simp, fun e he => ?_⟩
          simp only [List.mem_cons, List.mem_nil_iff, or_false] at he
          rcases he with rfl | rfl | rfl | rfl | rfl | rfl
          · exact ⟨_, rfl, by decide, by decide⟩
          · exact ⟨_, rfl, by decide, by decide⟩
          · exact ⟨_, rfl, by decide, by decide⟩
          · exact ⟨_, rfl, by decide, by decide⟩
          · exact ⟨_, rfl, by decide, by decide⟩
          · exact ⟨_, rfl, n0, n1⟩) (by show _ + 1 ≤ 1099511627776; omega)) ean_nil)) (by
        rintro l ⟨d, ds, rfl, ⟨s, rfl, hs⟩, d2, ds2, rfl, ⟨n, rfl, n0, n1⟩, rfl⟩
        exact ⟨s, n, rfl, hs, n0, n1⟩)) (by
        rintro l ⟨s, n, rfl, _⟩
        simp)).imp (by omega) (by
        rintro d ⟨l, rfl, s, n, rfl, hs, n0, n1⟩
        rcases hs with rfl | rfl
        · exact ⟨.pad n, rfl, n0, n1⟩
        · exact ⟨.tur n, rfl, n0, n1⟩)) ?_
      rintro d ⟨way, rfl, h⟩
      exact ⟨hP _ h, by omega⟩
def fLines : List D → D → Prop := fun ds d => ∃ cs m n, ds = [dI cs, .int m, .int n] ∧ CsOk cs ∧ 1 ≤ m ∧ m ≤ 32 ∧ 0 ≤ n ∧ n ≤ 31 ∧ d = .bl true
def colP (cs : List Int) : List (Int × Int) := (List.range (rowsF cs).toNat).map fun (y : Nat) => ((y : Int), colsF cs - 1)
def rowP (cs : List Int) : List (Int × Int) := (List.range (colsF cs).toNat).map fun (x : Nat) => (rowsF cs - 1, (x : Int))
theorem colP_in {cs : List Int} (hc : CsOk cs) : ∀ p ∈ colP cs, InC cs p := fun p hp => by
  obtain ⟨y, hy, rfl⟩ := List.mem_map.mp hp
  have := List.mem_range.mp hy
  have := hc.b
  exact ⟨by show (0 : Int) ≤ (y : Int); omega, by show (y : Int) < _; omega, by show 0 ≤ colsF cs - 1; omega, by show colsF cs - 1 < _; omega⟩
theorem rowP_in {cs : List Int} (hc : CsOk cs) : ∀ p ∈ rowP cs, InC cs p := fun p hp => by
  obtain ⟨x, hx, rfl⟩ := List.mem_map.mp hp
  have := List.mem_range.mp hx
  have := hc.b
  exact ⟨by show (0 : Int) ≤ rowsF cs - 1; omega, by show rowsF cs - 1 < _; omega, by show (0 : Int) ≤ (x : Int); omega, by show (x : Int) < colsF cs; omega⟩
theorem colP_asc (cs : List Int) : ascC (colP cs) = true := asc_of (by
  unfold colP
  rw [List.pairwise_map]
  exact List.Pairwise.imp (fun {a b} (h : a < b) => .inl (by show (a : Int) < (b : Int); omega)) List.pairwise_lt_range)
theorem rowP_asc (cs : List Int) : ascC (rowP cs) = true := asc_of (by
  unfold rowP
  rw [List.pairwise_map]
  exact List.Pairwise.imp (fun {a b} (h : a < b) => .inr ⟨rfl, by show (a : Int) < (b : Int); omega⟩) List.pairwise_lt_range)
theorem col_cost {cs : List Int} {m n : Int} (hc : CsOk cs) (h1 : 1 ≤ m) (n0 : 0 ≤ n) : decide (costF ((colP cs).map (bankF cs m (.pad n))) = 1) = decide (rowsF cs ≤ m / ((Nat.gcd m.toNat (colsF cs + n).toNat : Nat) : Int)) := by
  have hb := hc.b
  have e : (colP cs).map (bankF cs m (.pad n)) = (List.range (rowsF cs).toNat).map fun (d : Nat) => (colsF cs - 1 + (d : Int) * ((colsF cs + n).toNat : Nat)) % ((m.toNat : Nat) : Int) := by
    unfold colP
    rw [List.map_map]
    apply List.map_congr_left
    intro y _
    show ((y : Int) * (colsF cs + n) + (colsF cs - 1)) % m = _
    rw [Int.toNat_of_nonneg (by omega), Int.toNat_of_nonneg (by omega), Int.add_comm]
  have hne : (colP cs).map (bankF cs m (.pad n)) ≠ [] := by
    unfold colP
    intro z
    have := congrArg List.length z
    simp at this
    omega
  rw [decide_eq_decide, cost_one hne, e, nodup_iff _ _ _ _ (by omega)]
  generalize Nat.gcd m.toNat (colsF cs + n).toNat = g
  have e2 : m / (g : Int) = ((m.toNat / g : Nat) : Int) := by
    rw [Int.natCast_ediv, Int.toNat_of_nonneg (by omega)]
  rw [e2]
  omega
theorem row_cost {cs : List Int} {m n : Int} (hc : CsOk cs) (h1 : 1 ≤ m) (n0 : 0 ≤ n) : decide (costF ((rowP cs).map (bankF cs m (.pad n))) = 1) = decide (colsF cs ≤ m) := by
  have hb := hc.b
  have e : (rowP cs).map (bankF cs m (.pad n)) = (List.range (colsF cs).toNat).map fun (d : Nat) => ((rowsF cs - 1) * (colsF cs + n) + (d : Int) * ((1 : Nat) : Int)) % ((m.toNat : Nat) : Int) := by
    unfold rowP
    rw [List.map_map]
    apply List.map_congr_left
    intro x _
    show ((rowsF cs - 1) * (colsF cs + n) + (x : Int)) % m = _
    rw [Int.toNat_of_nonneg (by omega)]
    simp
  have hne : (rowP cs).map (bankF cs m (.pad n)) ≠ [] := by
    unfold rowP
    intro z
    have := congrArg List.length z
    simp at this
    omega
  rw [decide_eq_decide, cost_one hne, e, nodup_iff _ _ _ _ (by omega), Nat.gcd_one_right, Nat.div_one]
  omega
theorem nd_law_lines_right : (["_law_counts_here", "_law_many_here", "_law_number", "_law_tall", "_law_broad", "_law_way_here", "_law_column", "_law_down", "_law_is_free", "_law_row", "_law_across"] : List PySem.Str).Nodup := by decide +kernel
theorem ok_law_lines_right (F : Df K mg "_law_lines_right" (top 45) ["_law_counts_here", "_law_many_here", "_law_number"] cdv) (B : Bn mg) (c_law_box : Cal P w K mg base 1 "_law_box" (SpD T fShape) []) (c_law_shared_part_of : Cal P w K mg base 1 "_law_shared_part_of" (SpD T fGcd) []) (c_cost : CalXK P w K mg base 6 "cost" ["counts", "banks", "laying", "lot"] (SpR T (fACost ec))) : Cal P w K mg base (6 + 1) "_law_lines_right" (SpD T fLines) [] := by
  have nd := nd_law_lines_right
  refine calD (N := ["_law_counts_here", "_law_many_here", "_law_number", "_law_tall", "_law_broad", "_law_way_here", "_law_column", "_law_down", "_law_is_free", "_law_row", "_law_across"]) F (by decide +kernel) ?len (fun a A outer s H E hr => ⟨_, (pss_cons (ps_asg (pe_c c_law_box hr (by omega) rfl (pa_cons (pv 0) pa_nil)) (pg_tup rfl (pgs_cons (pg_name (i := 3) nd rfl (Or.inr rfl)) (pgs_cons (pg_name (i := 4) nd rfl (Or.inr rfl)) pgs_nil))))
    (pss_cons (ps_set (i := 5) nd rfl (Or.inl rfl) (pe_tup (pa_cons pe_str (pa_cons (pv 2) pa_nil))))
    (pss_cons (ps_set (i := 6) nd rfl (Or.inl rfl) (pe_callTy (ktuple K) rfl (by exact B.tuple) (by decide +kernel) (pa_cons (pe_lc rfl nd (pi_range1 rfl (by exact B.range) (pa_cons (pv 3) pa_nil)) (blkOk_by (own := [("_law_down", 7)]) (by rfl)) (fun _ _ _ _ _ => (pg_name (i := 7) nd rfl (Or.inl rfl))) (fun _ _ _ _ _ => pts_nil) (fun _ _ _ _ _ => (pe_tup (pa_cons (pv 7) (pa_cons (pe_op op_sub (pv 4) pe_int) pa_nil))))) pa_nil)))
    (pss_cons (ps_set (i := 8) nd rfl (Or.inl rfl) (pe_cmpR op_le (pv 3) (pe_op op_fdivW (pv 1) (pe_c c_law_shared_part_of hr (by omega) rfl (pa_cons (pe_op op_add (pv 4) (pv 2)) (pa_cons (pv 1) pa_nil)))) (nomark _)))
    (pss_cons (ps_if (pt_cmpR (kne K hr.units) (pe_cmpR (keq K hr.units) (pe_cx c_cost.x hr (by omega) rfl takesN (pa_cons (pv 0) (pa_cons (pv 1) (pa_cons (pv 5) (pa_cons (pv 6) pa_nil))))) pe_int (nomark _)) (pv 8) (nomark _)) (pss_one (ps_ret pe_bl)) pss_nil)
    (pss_cons (ps_set (i := 9) nd rfl (Or.inl rfl) (pe_callTy (ktuple K) rfl (by exact B.tuple) (by decide +kernel) (pa_cons (pe_lc rfl nd (pi_range1 rfl (by exact B.range) (pa_cons (pv 4) pa_nil)) (blkOk_by (own := [("_law_across", 10)]) (by rfl)) (fun _ _ _ _ _ => (pg_name (i := 10) nd rfl (Or.inl rfl))) (fun _ _ _ _ _ => pts_nil) (fun _ _ _ _ _ => (pe_tup (pa_cons (pe_op op_sub (pv 3) pe_int) (pa_cons (pv 10) pa_nil))))) pa_nil)))
    (pss_one (ps_ret (pe_cmpR (keq K hr.units) (pe_cmpR (keq K hr.units) (pe_cx c_cost.x hr (by omega) rfl takesN (pa_cons (pv 0) (pa_cons (pv 1) (pa_cons (pv 5) (pa_cons (pv 9) pa_nil))))) pe_int (nomark _)) (pe_cmpR op_le (pv 4) (pv 1) (nomark _)) (nomark _)))))))))), ?rd⟩)
  case len => rintro ds d ⟨cs, m, n, rfl, _, _, _, _, _, rfl⟩; rfl
  case rd =>
    rintro ds d ⟨cs, m, n, rfl, hc, hm1, hm2, n0, n1, rfl⟩
    have hb := hc.b
    refine tr_tg (ed_call (ea_cons (ed_var rfl) ea_nil) ⟨cs, rfl, hc, rfl⟩) tg_tup2 ?_
    refine tr_set (d := (Way.pad n).d) (ed_tup (ea_cons ed_str (ea_cons (ed_var rfl) ea_nil)) (by simp)) ?_
    refine tr_set (d := dLot (colP cs)) ((ed_CB (ea_cons (ed_map1 (List.range (rowsF cs).toNat) (fun (x : Nat) => .int x) (fun (y : Nat) => dP ((y : Int), colsF cs - 1)) (src_range1 (ea_cons (ed_var rfl) ea_nil) (by omega)) (by rw [List.length_range]; omega) fun x hx => ed_tup (ea_cons (ed_var rfl) (ea_cons (ed_op (ed_var rfl) ed_int rd_sub) ea_nil)) (by simp)) ea_nil) rdl_tupL).eq (by unfold dLot colP; rw [List.map_map]; rfl)) ?_
    refine tr_set (d := .bl (decide (rowsF cs ≤ m / ((Nat.gcd m.toNat (colsF cs + n).toNat : Nat) : Int)))) (ed_op (ed_var rfl) (ed_op (ed_var rfl) (ed_call (ea_cons (ed_op (ed_var rfl) (ed_var rfl) rd_add) (ea_cons (ed_var rfl) ea_nil)) ⟨(colsF cs + n).toNat, m.toNat, by rw [Int.toNat_of_nonneg (by omega), Int.toNat_of_nonneg (by omega)], rfl⟩) (rd_divW (wide_div (b := 20) ?_ ?_ (by decide) (by decide)))) rd_le) ?_
    · have : 0 < Nat.gcd m.toNat (colsF cs + n).toNat := Nat.gcd_pos_of_pos_left _ (by omega)
      omega
    · have : Nat.gcd m.toNat (colsF cs + n).toNat ≤ m.toNat := Nat.gcd_le_left _ (by omega)
      omega
    have hcost : ∀ ps : List (Int × Int), (∀ p ∈ ps, InC cs p) → ascC ps = true → ps.length ≤ 1000 → fACost ec [dI cs, .int m, (Way.pad n).d, dLot ps] (.ret (.int (costF (ps.map (bankF cs m (.pad n)))))) := fun ps hp ha hl => ⟨_, _, _, _, rfl, hc.pl, pl_int, Way.pl (way := .pad n) (m := m) hc ⟨n0, n1⟩, pl_cells hl, (rCost_ok (way := .pad n) hc hm1 hm2 ⟨n0, n1⟩ hp ha).symm⟩
    have hcl : (colP cs).length ≤ 1000 := by unfold colP; rw [List.length_map, List.length_range]; omega
    have hrl : (rowP cs).length ≤ 1000 := by unfold rowP; rw [List.length_map, List.length_range]; omega
    refine tr_when (b := false) ((et_test (ed_op (ed_op (ed_callR (ea_cons (ed_var rfl) (ea_cons (ed_var rfl) (ea_cons (ed_var rfl) (ea_cons (ed_var rfl) ea_nil)))) (hcost _ (colP_in hc) (colP_asc cs) hcl)) ed_int rd_eqI) (ed_var rfl) (rd_neD (n := 0) (m := 0) ok_bl ok_bl))).eq (by rw [eqv_bl, col_cost hc hm1 n0, beq_self_eq_true]; rfl)) (fun z => by cases z) fun _ => ?_
    refine tr_set (d := dLot (rowP cs)) ((ed_CB (ea_cons (ed_map1 (List.range (colsF cs).toNat) (fun (x : Nat) => .int x) (fun (x : Nat) => dP (rowsF cs - 1, (x : Int))) (src_range1 (ea_cons (ed_var rfl) ea_nil) (by omega)) (by rw [List.length_range]; omega) fun x hx => ed_tup (ea_cons (ed_op (ed_var rfl) ed_int rd_sub) (ea_cons (ed_var rfl) ea_nil)) (by simp)) ea_nil) rdl_tupL).eq (by unfold dLot rowP; rw [List.map_map]; rfl)) ?_
    exact tr_ret ((ed_op (ed_op (ed_callR (ea_cons (ed_var rfl) (ea_cons (ed_var rfl) (ea_cons (ed_var rfl) (ea_cons (ed_var rfl) ea_nil)))) (hcost _ (rowP_in hc) (rowP_asc cs) hrl)) ed_int rd_eqI) (ed_op (ed_var rfl) (ed_var rfl) rd_le) (rd_eqD (n := 0) (m := 0) ok_bl ok_bl)).eq (d' := .bl true) (by rw [eqv_bl, row_cost hc hm1 n0, beq_self_eq_true])) rfl
theorem cutD_take (xs : List D) : Fx.cutD xs none (some 1) = xs.take 1 := by
  have e : HT.sIx xs.length xs.length (some 1) = min 1 xs.length := HT.sIx_nat _ _ 1
  unfold Fx.cutD
  rw [HT.sIx_none, e, List.drop_zero, Nat.sub_zero]
  cases xs with
  | nil => rfl
  | cons x r => rw [show min 1 (x :: r).length = 1 from by simp]
def wrongs (cs : List Int) (ps : List (Int × Int)) : List D := [.non, .lst (ps.map dP), .tup [dP (0, colsF cs)], .tup [dP (rowsF cs, 0)], .tup [dP (-1, 0)], .tup [dP (0, 0), dP (0, 0)], .tup [dI [0]], .tup [.int 0], .tup [.lst [.int 0, .int 0]], .tup [.tup [.bl true, .int 0]], .tup [.tup [.int 0, .bl false]]] ++ (if 1 < ps.length then [dLot ps.reverse, dLot (ps ++ ps.take 1)] else [])
def fWrong (S : Addr) : List D → (D → Prop) → Prop := fun ds P => ∃ cs ps, ds = [.raw (.ref S), dI cs, dLot ps] ∧ CsOk cs ∧ ps.length ≤ 300 ∧ ∀ d ∈ wrongs cs ps, P d
theorem nd_law_wrong_lot : (["_law_draw", "_law_counts_here", "_law_lot_here", "_law_tall", "_law_broad", "_law_some"] : List PySem.Str).Nodup := by decide +kernel
theorem ok_law_wrong_lot (F : Df K mg "_law_wrong_lot" (top 46) ["_law_draw", "_law_counts_here", "_law_lot_here"] cdv) (B : Bn mg) (c_law_pick : Cal P w K mg base 4 "_law_pick" (SpSx T 1 fPick) []) (c_law_box : Cal P w K mg base 1 "_law_box" (SpD T fShape) []) : Cal P w K mg base (4 + 1) "_law_wrong_lot" (SpSx T 1 fWrong) [] := by
  have nd := nd_law_wrong_lot
  refine calSx (N := ["_law_draw", "_law_counts_here", "_law_lot_here", "_law_tall", "_law_broad", "_law_some"]) F (by decide +kernel) ?len (fun a A outer s H E hr => ⟨_, (pss_cons (ps_asg (pe_c c_law_box hr (by omega) rfl (pa_cons (pv 1) pa_nil)) (pg_tup rfl (pgs_cons (pg_name (i := 3) nd rfl (Or.inl rfl)) (pgs_cons (pg_name (i := 4) nd rfl (Or.inl rfl)) pgs_nil))))
    (pss_cons (ps_set (i := 5) nd rfl (Or.inl rfl) (pe_lst (pa_cons pe_non (pa_cons (pe_callTy (klist K) rfl (by exact B.list) (by decide +kernel) (pa_cons (pv 2) pa_nil)) (pa_cons (pe_tup (pa_cons (pe_tup (pa_cons pe_int (pa_cons (pv 4) pa_nil))) pa_nil)) (pa_cons (pe_tup (pa_cons (pe_tup (pa_cons (pv 3) (pa_cons pe_int pa_nil))) pa_nil)) (pa_cons (pe_tup (pa_cons (pe_tup (pa_cons (pe_un un_neg pe_int) (pa_cons pe_int pa_nil))) pa_nil)) (pa_cons (pe_tup (pa_cons (pe_tup (pa_cons pe_int (pa_cons pe_int pa_nil))) (pa_cons (pe_tup (pa_cons pe_int (pa_cons pe_int pa_nil))) pa_nil))) (pa_cons (pe_tup (pa_cons (pe_tup (pa_cons pe_int pa_nil)) pa_nil)) (pa_cons (pe_tup (pa_cons pe_int pa_nil)) (pa_cons (pe_tup (pa_cons (pe_lst (pa_cons pe_int (pa_cons pe_int pa_nil))) pa_nil)) (pa_cons (pe_tup (pa_cons (pe_tup (pa_cons pe_bl (pa_cons pe_int pa_nil))) pa_nil)) (pa_cons (pe_tup (pa_cons (pe_tup (pa_cons pe_int (pa_cons pe_bl pa_nil))) pa_nil)) pa_nil)))))))))))))
    (pss_cons (ps_if (pt_cmpR op_gt (pe_callB (klen K) rfl (by exact B.len) (by decide +kernel) (pa_cons (pv 2) pa_nil)) pe_int (nomark _)) (pss_one (ps_set (i := 5) nd rfl (Or.inl rfl) (pe_op op_cat (pv 5) (pe_lst (pa_cons (kpe_revT K (pv 2)) (pa_cons (pe_op (kcatA K) (pv 2) (pe_slice (kslA K) (pv 2) po_none (po_some pe_int))) pa_nil)))))) pss_nil)
    (pss_one (ps_ret (pe_c c_law_pick hr (by omega) rfl (pa_cons (pv 0) (pa_cons (pv 5) pa_nil)))))))), ?rd⟩)
  case len => rintro S ds d ⟨cs, ps, rfl, _⟩; rfl
  case rd =>
    rintro W0' S lw lc cells ds P c ⟨cs, ps, rfl, hc, hl, hP⟩ hcap
    refine tr_tg (ed_call (ea_cons (ed_var rfl) ea_nil) ⟨cs, rfl, hc, rfl⟩) tg_tup2 ?_
    refine tr_set (d := .lst ([.non, .lst (ps.map dP), .tup [dP (0, colsF cs)], .tup [dP (rowsF cs, 0)], .tup [dP (-1, 0)], .tup [dP (0, 0), dP (0, 0)], .tup [dI [0]], .tup [.int 0], .tup [.lst [.int 0, .int 0]], .tup [.tup [.bl true, .int 0]], .tup [.tup [.int 0, .bl false]]] : List D)) (ed_lst (ea_cons ed_non (ea_cons (ed_CB (ea_cons (ed_var rfl) ea_nil) rdl_listT) (ea_cons (ed_tup (ea_cons (ed_tup (ea_cons ed_int (ea_cons (ed_var rfl) ea_nil)) (by simp)) ea_nil) (by simp)) (ea_cons (ed_tup (ea_cons (ed_tup (ea_cons (ed_var rfl) (ea_cons ed_int ea_nil)) (by simp)) ea_nil) (by simp)) (ea_cons (ed_tup (ea_cons (ed_tup (ea_cons (ed_un ed_int rd1_neg) (ea_cons ed_int ea_nil)) (by simp)) ea_nil) (by simp)) (ea_cons (ed_tup (ea_cons (ed_tup (ea_cons ed_int (ea_cons ed_int ea_nil)) (by simp)) (ea_cons (ed_tup (ea_cons ed_int (ea_cons ed_int ea_nil)) (by simp)) ea_nil)) (by simp)) (ea_cons (ed_tup (ea_cons (ed_tup (ea_cons ed_int ea_nil) (by simp)) ea_nil) (by simp)) (ea_cons (ed_tup (ea_cons ed_int ea_nil) (by simp)) (ea_cons (ed_tup (ea_cons (ed_lst (ea_cons ed_int (ea_cons ed_int ea_nil)) (by simp)) ea_nil) (by simp)) (ea_cons (ed_tup (ea_cons (ed_tup (ea_cons ed_bl (ea_cons ed_int ea_nil)) (by simp)) ea_nil) (by simp)) (ea_cons (ed_tup (ea_cons (ed_tup (ea_cons ed_int (ea_cons ed_bl ea_nil)) (by simp)) ea_nil) (by simp)) ea_nil))))))))))) (by simp)) ?_
    refine tr_when (et_test (ed_op (ed_CB (ea_cons (ed_var rfl) ea_nil) rdl_lenT) ed_int rd_gt)) (fun h => ?_) (fun h => ?_)
    · have h1 : 1 < ps.length := by
        simp at h
        omega
      refine tr_set1 (d := .lst (wrongs cs ps)) ((ed_op (ed_var rfl) (ed_lst (ea_cons ((ed_revT (ed_var rfl)).eq (d' := dLot ps.reverse) (by unfold dLot; rw [List.map_reverse])) (ea_cons ((ed_op (ed_var rfl) (ed_slT (ed_var rfl) eo_none (eo_some ed_int)) (rd_catA (by rw [cutD_take, List.length_take, List.length_map]; omega))).eq (d' := dLot (ps ++ ps.take 1)) (by unfold dLot; rw [cutD_take, List.map_append, List.map_take])) ea_nil)) (by simp)) (rd_cat (by simp))).eq (by unfold wrongs; rw [if_pos h1])) ?_
      refine tr_retN (n := 1) (en_pickL (es := wrongs cs ps) rfl (ed_var rfl) (by simp [wrongs]) (by unfold wrongs; rw [if_pos h1]; simp) (by show c + 1 ≤ _; omega)) fun d hd => ⟨hP d hd, by omega⟩
    · have h1 : ¬ 1 < ps.length := by
        simp at h
        omega
      refine tr_retN (n := 1) (en_pickL (es := wrongs cs ps) rfl ((ed_var rfl).eq (by unfold wrongs; rw [if_neg h1, List.append_nil])) (by simp [wrongs]) (by unfold wrongs; rw [if_neg h1]; simp) (by show c + 1 ≤ _; omega)) fun d hd => ⟨hP d hd, by omega⟩
end
end K62


set_option Elab.async false
set_option linter.all false
set_option maxRecDepth 100000
set_option maxHeartbeats 4000000
/-! Values bent at a drawn place. -/
namespace K62
open PySem PySem.Spec PyProof.Rows L2 LamX C8 Fx
section
variable {P : Program} {w : World} {K : PySem.W.Frag} {mg : Str → Option Value} {base : Heap} {T : List (Addr × Str)} {cdv : Value} {c0 P0 : Addr} {W0' : Wld T} {S lw lc : Addr} {cells : List Int} {ec : Ec}
def Leaf (x : D) : Prop := (∃ s, x = .str s ∧ s.length ≤ 100 ∧ PyData.canLay0 (.str s) = true) ∨ ∃ i : Int, x = .int i ∧ -1000 ≤ i ∧ i ≤ 1000
def bt : Nat → D → Prop
  | 0, _ => False
  | n + 1, x => Leaf x ∨ ∃ es, x = .tup es ∧ es.length ≤ 300 ∧ ∀ e ∈ es, bt n e
theorem bt_pl : ∀ {n : Nat} {x : D}, bt n x → pl x = true
  | n + 1, x, h => by
    rcases h with (⟨s, rfl, _⟩ | ⟨i, rfl, _⟩) | ⟨es, rfl, hl, he⟩
    · exact pl_str
    · exact pl_int
    · exact pl_tup_of (fun e h => bt_pl (he e h)) (by omega)
theorem okL_of {n : Nat} : ∀ {es : List D}, (∀ e ∈ es, D.ok n e = true) → okL n es = true
  | [], _ => okL_nil
  | e :: es, h => okL_cons (h e List.mem_cons_self) (okL_of fun d hd => h d (List.mem_cons_of_mem _ hd))
theorem bt_ok : ∀ {n : Nat} {x : D}, bt n x → D.ok n x = true
  | n + 1, x, h => by
    rcases h with (⟨s, rfl, _, hs⟩ | ⟨i, rfl, _⟩) | ⟨es, rfl, hl, he⟩
    · exact hs
    · exact ok_int
    · show okL n es = true
      exact okL_of fun e h => bt_ok (he e h)
def fBent (n : Nat) (S : Addr) : List D → (D → Prop) → Prop := fun ds P => ∃ x, ds = [.raw (.ref S), x] ∧ bt n x ∧ ∀ y, pl y = true → P y
theorem cutD_mem {xs : List D} {lo hi : Option Int} {d : D} (h : d ∈ Fx.cutD xs lo hi) : d ∈ xs := List.mem_of_mem_drop (List.mem_of_mem_take h)
theorem cutD_len (xs : List D) (lo hi : Option Int) : (Fx.cutD xs lo hi).length ≤ xs.length := by
  unfold Fx.cutD
  rw [List.length_take, List.length_drop]
  omega
theorem etn_and {W : Wld T} {t u : TT} {env : Env'} {c k1 k2 : Nat} {P1 P : Bool → Prop} (h : ETN W t env c k1 P1) (h1 : P1 false → P false) (h2 : P1 true → ETN W u env (c + k1) k2 P) : ETN W (tAnd t u) env c (k1 + k2) P := fun G0 H0 σ G H A Q q =>
  h G0 H0 σ G H A _ fun b G1 H1 s1 g1 j1 p => by
    cases b with
    | false => exact q false G1 H1 s1 g1 (W.mono (by omega) j1) (h1 p)
    | true => exact h2 p G0 H0 σ G1 H1 (A.step s1 g1 j1) Q fun b G2 H2 s2 g2 j2 p2 => q b G2 H2 (s1.trans s2) g2 (by rw [← Nat.add_assoc]; exact j2) p2
/-- a def's promise of nothing -/
theorem cal_noneX {P : Program} {w : World} {K : PySem.W.Frag} {mg : Str → Option Value} {base : Heap} {x : Str} {st : Stmt} {ps : List Str} {k m : Nat} {cdv : Value} {f : Addr → List D → (D → Prop) → Prop} (F : Df K mg x st ps cdv) (no : ∀ S ds d, ¬ f S ds d) : Cal P w K mg base k x (SpSx T m f) [] := by
  obtain ⟨f', oc, od, kV, doc, pm, an, ct, osl, lk, hcd, hm, kp, hb⟩ := F.ex
  exact ⟨f', _, ps, [], ⟨fun vs H Q E h => (by obtain ⟨W, S, lw, lc, cells, G, c, ds, d, _, _, _, _, hf, _⟩ := h; exact absurd hf (no S ds d)), fun A outer s H args us vs Q E _ _ _ _ h => (by obtain ⟨W, S, lw, lc, cells, G, c, ds, d, _, _, _, _, hf, _⟩ := h; exact absurd hf (no S ds d))⟩, hm, kp, hb, .nil⟩
theorem log_small {i : Int} (h : -1000 ≤ i ∧ i ≤ 1000) : i.natAbs.log2 < 1920 := by
  have := Nat.log2_le_self i.natAbs
  omega
theorem nd_law_bent : (["_law_draw", "_law_item", "_law_spot", "_law_some"] : List PySem.Str).Nodup := by decide +kernel
theorem ok_law_bent {n : Nat} (F : Df K mg "_law_bent" (top 38) ["_law_draw", "_law_item"] cdv) (B : Bn mg) (c_law_take : Cal P w K mg base 3 "_law_take" (SpSx T 1 fDraw) []) (c_law_pick : Cal P w K mg base 4 "_law_pick" (SpSx T 1 fPick) []) (c_law_is_whole : Cal P w K mg base 1 "_law_is_whole" (SpD T fIsNumber) []) (hn3 : n + 1 ≤ 60) (c_law_bent : Cal P w K mg base (n + 5) "_law_bent" (SpSx T (2 * n + 3) (fBent n)) []) : Cal P w K mg base ((n+5) + 1) "_law_bent" (SpSx T (2*(n+1)+3) (fBent (n+1))) [] := by
  have nd := nd_law_bent
  refine calSx (N := ["_law_draw", "_law_item", "_law_spot", "_law_some"]) F (by decide +kernel) ?len (fun a A outer s H E hr => ⟨_, (pss_cons (ps_if (PW.pt (pw_and (pt_val (pe_callB (kisi K) rfl (by exact B.isinstance) (by decide +kernel) (pa_cons (pv 1) (pa_cons (pe_bltn (v := .ty "tuple") rfl (by exact B.tuple) (by decide +kernel) rfl) pa_nil)))) (pw_and (pt_cmpR (kne K hr.units) (pv 1) (pe_tup pa_nil) (nomark _)) (pw_and1 (pt_cmpR op_gt (pe_c c_law_take hr (by omega) rfl (pa_cons (pv 0) (pa_cons pe_int pa_nil))) pe_int (nomark _)))))) (pss_cons (ps_set (i := 2) nd rfl (Or.inl rfl) (pe_c c_law_take hr (by omega) rfl (pa_cons (pv 0) (pa_cons (pe_callB (klen K) rfl (by exact B.len) (by decide +kernel) (pa_cons (pv 1) pa_nil)) pa_nil))))
    (pss_one (ps_ret (pe_op (kcatA K) (pe_op (kcatA K) (pe_slice (kslA K) (pv 1) po_none (po_some (pv 2))) (pe_tup (pa_cons (pe_c c_law_bent hr (by omega) rfl (pa_cons (pv 0) (pa_cons (pe_ix (kix K) (pv 1) (pv 2) (fun _ _ => rfl)) pa_nil))) pa_nil))) (pe_slice (kslA K) (pv 1) (po_some (pe_op op_add (pv 2) pe_int)) po_none))))) pss_nil)
    (pss_cons (ps_if (pt_val (pe_callB (kisi K) rfl (by exact B.isinstance) (by decide +kernel) (pa_cons (pv 1) (pa_cons (pe_bltn (v := .ty "tuple") rfl (by exact B.tuple) (by decide +kernel) rfl) pa_nil)))) (pss_cons (ps_set (i := 3) nd rfl (Or.inl rfl) (pe_lst (pa_cons (pe_tup pa_nil) (pa_cons pe_non (pa_cons (pe_callTy (klist K) rfl (by exact B.list) (by decide +kernel) (pa_cons (pv 1) pa_nil)) (pa_cons (pe_op (kcatA K) (pv 1) (pe_slice (kslA K) (pv 1) (po_some (pe_un un_neg pe_int)) po_none)) (pa_cons (pe_slice (kslA K) (pv 1) po_none (po_some (pe_un un_neg pe_int))) (pa_cons (kpe_revT K (pv 1)) (pa_cons (pe_tup (pa_cons (pv 1) pa_nil)) (pa_cons (pe_op (kcatA K) (pv 1) (pe_tup (pa_cons pe_non pa_nil))) pa_nil))))))))))
    (pss_one (ps_ret (pe_c c_law_pick hr (by omega) rfl (pa_cons (pv 0) (pa_cons (pv 3) pa_nil)))))) pss_nil)
    (pss_cons (ps_if (pt_val (pe_callB (kisi K) rfl (by exact B.isinstance) (by decide +kernel) (pa_cons (pv 1) (pa_cons (pe_bltn (v := .ty "str") rfl (by exact B.str) (by decide +kernel) rfl) pa_nil)))) (pss_cons (ps_set (i := 3) nd rfl (Or.inl rfl) (pe_lst (pa_cons pe_str (pa_cons pe_str (pa_cons pe_str (pa_cons pe_str (pa_cons pe_str (pa_cons pe_str (pa_cons pe_str (pa_cons pe_str (pa_cons pe_str (pa_cons pe_str (pa_cons pe_str (pa_cons pe_str (pa_cons pe_str (pa_cons pe_str (pa_cons pe_str (pa_cons (pv 1) pa_nil))))))))))))))))))
    (pss_one (ps_ret (pe_c c_law_pick hr (by omega) rfl (pa_cons (pv 0) (pa_cons (pe_op op_cat (pv 3) (pe_lst (pa_cons pe_non (pa_cons (pe_op op_add_str (pv 1) pe_str) (pa_cons (pe_slice sl_str (pv 1) (po_some pe_int) po_none) (pa_cons pe_int pa_nil)))))) pa_nil)))))) pss_nil)
    (pss_cons (ps_if (pt_val (pe_c c_law_is_whole hr (by omega) rfl (pa_cons (pv 1) pa_nil))) (pss_one (ps_ret (pe_c c_law_pick hr (by omega) rfl (pa_cons (pv 0) (pa_cons (pe_lst (pa_cons (pe_op op_add (pv 1) pe_int) (pa_cons (pe_op op_sub (pv 1) pe_int) (pa_cons (pe_op op_sub pe_int (pv 1)) (pa_cons pe_bl (pa_cons pe_non (pa_cons (pe_callTy call_str_int rfl (by exact B.str) (by decide +kernel) (pa_cons (pv 1) pa_nil)) (pa_cons (pe_op op_add (pv 1) pe_int) (pa_cons (pe_tup (pa_cons (pv 1) pa_nil)) pa_nil))))))))) pa_nil))))) pss_nil)
    (pss_one (ps_ret (pe_c c_law_pick hr (by omega) rfl (pa_cons (pv 0) (pa_cons (pe_lst (pa_cons pe_int (pa_cons pe_str (pa_cons pe_bl (pa_cons pe_bl (pa_cons (pe_tup pa_nil) (pa_cons pe_non (pa_cons pe_str (pa_cons pe_int pa_nil))))))))) pa_nil))))))))), ?rd⟩)
  case len => rintro S ds d ⟨x, rfl, _⟩; rfl
  case rd =>
    rintro W0' S lw lc cells ds P c ⟨x, rfl, hx, hP⟩ hcap
    have hok := bt_ok hx
    have hpl := bt_pl hx
    rcases hx with (⟨s, rfl, hs, hso⟩ | ⟨i, rfl, hi⟩) | ⟨es, rfl, hl, he⟩
    · refine tr_when (b := false) (et_and (b := false) (et_B (ed_CB (ea_cons (ed_var rfl) (ea_cons ed_raw ea_nil)) (rdl_isT hpl))) fun h => by cases h) (fun h => by cases h) fun _ => ?_
      refine tr_when (b := false) (et_B (ed_CB (ea_cons (ed_var rfl) (ea_cons ed_raw ea_nil)) (rdl_isT hpl))) (fun h => by cases h) fun _ => ?_
      refine tr_when (b := true) (et_B (ed_CB (ea_cons (ed_var rfl) (ea_cons ed_raw ea_nil)) (rdl_isS hpl))) (fun _ => ?_) (fun h => by cases h)
      refine tr_set (ed_lst (ea_cons ed_str (ea_cons ed_str (ea_cons ed_str (ea_cons ed_str (ea_cons ed_str (ea_cons ed_str (ea_cons ed_str (ea_cons ed_str (ea_cons ed_str (ea_cons ed_str (ea_cons ed_str (ea_cons ed_str (ea_cons ed_str (ea_cons ed_str (ea_cons ed_str (ea_cons (ed_var rfl) ea_nil)))))))))))))))) (by simp)) ?_
      refine tr_retN (n := 1) (en_pickL rfl (ed_op (ed_var rfl) (ed_lst (ea_cons ed_non (ea_cons (ed_op (ed_var rfl) ed_str (rd_catS (by show s.length + 1 ≤ _; omega))) (ea_cons (ed_slS (ed_var rfl) (eo_some ed_int) eo_none (by omega)) (ea_cons ed_int ea_nil)))) (by simp)) (rd_cat (by simp))) (by simp) (by simp) (by omega)) fun d hd => ⟨hP d ?_, by omega⟩
      simp only [List.mem_append, List.mem_cons, List.mem_nil_iff, or_false] at hd
      rcases hd with (rfl | rfl | rfl | rfl | rfl | rfl | rfl | rfl | rfl | rfl | rfl | rfl | rfl | rfl | rfl | rfl) | rfl | rfl | rfl | rfl <;> first | exact pl_str | exact pl_int | rfl
    · refine tr_when (b := false) (et_and (b := false) (et_B (ed_CB (ea_cons (ed_var rfl) (ea_cons ed_raw ea_nil)) (rdl_isT hpl))) fun h => by cases h) (fun h => by cases h) fun _ => ?_
      refine tr_when (b := false) (et_B (ed_CB (ea_cons (ed_var rfl) (ea_cons ed_raw ea_nil)) (rdl_isT hpl))) (fun h => by cases h) fun _ => ?_
      refine tr_when (b := false) (et_B (ed_CB (ea_cons (ed_var rfl) (ea_cons ed_raw ea_nil)) (rdl_isS hpl))) (fun h => by cases h) fun _ => ?_
      refine tr_when (b := true) (et_B (ed_call (ea_cons (ed_var rfl) ea_nil) ⟨.int i, rfl, hpl, rfl⟩)) (fun _ => ?_) (fun h => by cases h)
      refine tr_retN (n := 1) (en_pickL rfl (ed_lst (ea_cons (ed_op (ed_var rfl) ed_int rd_add) (ea_cons (ed_op (ed_var rfl) ed_int rd_sub) (ea_cons (ed_op ed_int (ed_var rfl) rd_sub) (ea_cons ed_bl (ea_cons ed_non (ea_cons (ed_CB (ea_cons (ed_var rfl) ea_nil) (rdl_strI (log_small hi))) (ea_cons (ed_op (ed_var rfl) ed_int rd_add) (ea_cons (ed_tup (ea_cons (ed_var rfl) ea_nil) (by simp)) ea_nil)))))))) (by simp)) (by simp) (by simp) (by omega)) fun d hd => ⟨hP d ?_, by omega⟩
      simp only [List.mem_cons, List.mem_nil_iff, or_false] at hd
      rcases hd with rfl | rfl | rfl | rfl | rfl | rfl | rfl | rfl
      all_goals first | exact pl_int | exact pl_str | rfl | exact pl_tup_of (fun e h => by rw [List.mem_singleton.mp h]; exact pl_int) (by simp)
    · have hpe : ∀ e ∈ es, pl e = true := fun e h => bt_pl (he e h)
      refine tr_whenN (n := 0 + (0 + 1)) (P := fun b => b = true → es ≠ []) (etn_and (P1 := fun b => b = true) ((et_B (ed_CB (ea_cons (ed_var rfl) (ea_cons ed_raw ea_nil)) (rdl_isT hpl))).n.imp (Nat.le_refl _) fun b e => e) (fun h => by cases h) fun _ => etn_and (P1 := fun b => b = true → es ≠ []) ((et_test (ed_op (ed_var rfl) (ed_tup ea_nil (by simp)) (rd_neD (b := .tup []) (m := 1) hok (by rfl) (by omega)))).n.imp (Nat.le_refl _) fun b e hb => ?_) (fun _ h => by cases h) fun h0 => (etn_test (en_op (P := fun d => ∃ b, d = .bl b ∧ True) (en_take (n := 12) rfl ed_int (by decide) (by decide) (by omega)) (ed_int (i := 0)).n fun d1 d2 ⟨x, e1, _⟩ e2 => ⟨.bl (decide (0 < x)), by rw [e1, e2]; exact rd_gt, _, rfl, trivial⟩)).imp (Nat.le_refl _) fun b _ _ => h0 rfl) (fun h => ?_) (fun _ => ?_)
      · rw [e, eqv_tup_nil] at hb
        intro z
        rw [z] at hb
        cases hb
      · have hne := h rfl
        have hpos : 0 < es.length := List.length_pos_iff.mpr hne
        refine tr_setN (n := 1) (en_take (n := ((es.length : Nat) : Int)) rfl (ed_CB (ea_cons (ed_var rfl) ea_nil) rdl_lenT) (by omega) (by omega) (by omega)) ?_
        rintro d ⟨x, rfl, x0, x1⟩
        obtain ⟨k, rfl⟩ := Int.eq_ofNat_of_zero_le x0
        have hk : k < es.length := by omega
        refine tr_retN (n := (0 + ((0 + 0) + (2 * n + 3) + 0)) + 0) (P := fun d => pl d = true) (en_op (P1 := fun d => ∃ y, d = .tup (Fx.cutD es none (some (k : Nat)) ++ [y]) ∧ pl y = true) (en_op (P1 := fun d => d = .tup (Fx.cutD es none (some (k : Nat)))) (P2 := fun d => ∃ y, d = .tup [y] ∧ pl y = true) (ed_slT (ed_var rfl) eo_none (eo_some (ed_var rfl))).n ((en_tup (P := fun l => ∃ y, l = [y] ∧ pl y = true) (EAN.imp1 (ean_cons (P := fun y => pl y = true) (k := 0 + 0 + (2 * n + 3)) (en_callX (k := 2 * n + 3) (f := fBent n) (ean_cons (ed_var rfl).n (ean_cons (ed_op (ed_var rfl) (ed_var rfl) (rd_ixT (i := k) (List.getElem?_eq_getElem hk))).n ean_nil)) (by
            rintro l ⟨d1, l1, rfl, rfl, d2, l2, rfl, rfl, rfl⟩
            exact ⟨_, rfl, he _ (List.getElem_mem hk), fun y hy => hy⟩) (by omega)) ean_nil) (by
            rintro l ⟨y, l1, rfl, hy, rfl⟩
            exact ⟨y, rfl, hy⟩)) (by
            rintro l ⟨y, rfl, hy⟩
            simp)).imp (Nat.le_refl _) (by
            rintro d ⟨l, rfl, y, rfl, hy⟩
            exact ⟨y, rfl, hy⟩)) (by
            rintro d1 d2 rfl ⟨y, rfl, hy⟩
            exact ⟨_, rd_catA (by have := cutD_len es none (some (k : Nat)); simp; omega), y, rfl, hy⟩)) (ed_slT (ed_var rfl) (eo_some (ed_op (ed_var rfl) ed_int rd_add)) eo_none).n (by
          rintro d1 d2 ⟨y, rfl, hy⟩ rfl
          have h1 := cutD_len es none (some (k : Nat))
          have h2 := cutD_len es (some ((k : Nat) + 1)) none
          refine ⟨_, rd_catA (by simp; omega), pl_tup_of (fun d hd => ?_) (by simp; omega)⟩
          rcases List.mem_append.mp hd with hd | hd
          · rcases List.mem_append.mp hd with hd | hd
            · exact hpe d (cutD_mem hd)
            · rw [List.mem_singleton.mp hd]; exact hy
          · exact hpe d (cutD_mem hd))) fun d hd => ⟨hP d hd, by omega⟩
      · refine tr_when (b := true) (et_B (ed_CB (ea_cons (ed_var rfl) (ea_cons ed_raw ea_nil)) (rdl_isT hpl))) (fun _ => ?_) (fun h => by cases h)
        have h1 := cutD_len es (some (-1)) none
        have h2 := cutD_len es none (some (-1))
        refine tr_set (d := .lst [.tup [], .non, .lst es, .tup (es ++ Fx.cutD es (some (-1)) none), .tup (Fx.cutD es none (some (-1))), .tup es.reverse, .tup [.tup es], .tup (es ++ [.non])]) (ed_lst (ea_cons (ed_tup ea_nil (by simp)) (ea_cons ed_non (ea_cons (ed_CB (ea_cons (ed_var rfl) ea_nil) rdl_listT) (ea_cons (ed_op (ed_var rfl) (ed_slT (ed_var rfl) (eo_some (ed_un ed_int rd1_neg)) eo_none) (rd_catA (by omega))) (ea_cons (ed_slT (ed_var rfl) eo_none (eo_some (ed_un ed_int rd1_neg))) (ea_cons (ed_revT (ed_var rfl)) (ea_cons (ed_tup (ea_cons (ed_var rfl) ea_nil) (by simp)) (ea_cons (ed_op (ed_var rfl) (ed_tup (ea_cons ed_non ea_nil) (by simp)) (rd_catA (by simp; omega))) ea_nil)))))))) (by simp)) ?_
        refine tr_retN (n := 1) (en_pickL rfl (ed_var rfl) (by simp) (by simp) (by omega)) fun d hd => ⟨hP d ?_, by omega⟩
        simp only [List.mem_cons, List.mem_nil_iff, or_false] at hd
        rcases hd with rfl | rfl | rfl | rfl | rfl | rfl | rfl | rfl
        · rfl
        · rfl
        · exact pl_lst_of hpe (by omega)
        · exact pl_tup_of (fun d hd => (List.mem_append.mp hd).elim (hpe d) fun z => hpe d (cutD_mem z)) (by simp; omega)
        · exact pl_tup_of (fun d hd => hpe d (cutD_mem hd)) (by omega)
        · exact pl_tup_of (fun d hd => hpe d (List.mem_reverse.mp hd)) (by simp; omega)
        · exact pl_tup_of (fun d hd => by rw [List.mem_singleton.mp hd]; exact hpl) (by simp)
        · exact pl_tup_of (fun d hd => (List.mem_append.mp hd).elim (hpe d) fun z => by rw [List.mem_singleton.mp z]; rfl) (by simp; omega)
end
end K62


set_option Elab.async false
set_option linter.all false
set_option maxRecDepth 100000
set_option maxHeartbeats 4000000
/-! What the law's last def needs in plain terms. -/
namespace K62
open PySem PySem.Spec PyProof.Rows L2 LamX C8 Fx
theorem show2 {a : Int} (h : 0 ≤ a ∧ a ≤ 10000) : (D.lst [.int a, .int a]).py.showable = true ∧ (D.lst [.int a, .int a]).py.shown.length ≤ sizeLine := by
  have e : (D.lst [.int a, .int a]).py = .list [.int a, .int a] := by
    rw [D.py, pyL, pyL, pyL, D.py]
  have hlog := Nat.log2_le_self a.natAbs
  have hl : a.natAbs.log2 < 1920 ∨ 1920 ≤ a.natAbs.log2 := by omega
  have hlog2 : a.natAbs.log2 ≤ 16 := by
    by_cases hz : a.natAbs = 0
    · rw [hz]; decide
    · have : a.natAbs.log2 < 16 := (Nat.log2_lt hz).mpr (by omega)
      omega
  rw [e]
  refine ⟨?_, PyData.shown_fits_of_layable0 (B := 13) (by decide) (by decide) ?_ ?_⟩
  · simp only [PyData.showable, PyData.showableAll, Bool.and_true, Bool.and_self, decide_eq_true_eq]
    omega
  · unfold PyData.layable0
    have h1 : PyData.canLay0 (.list [.int a, .int a]) = true := rfl
    have h2 : PyData.depth (.list [.int a, .int a]) ≤ 64 := by simp [PyData.depth, PyData.depthAll]
    have h3 : PyData.weight (.list [.int a, .int a]) ≤ 2 ^ 20 := by
      simp only [PyData.weight, PyData.weightAll]
      split <;> omega
    rw [h1, decide_eq_true h2, decide_eq_true h3]; rfl
  · have := PyData.shown_int_le (i := a) (by omega)
    simp only [PyData.intsShort, PyData.intsShortAll, Bool.and_true, Bool.and_self, decide_eq_true_eq]
    exact this
theorem way_bt {cs : List Int} {m : Int} {way : Way} (hc : CsOk cs) (hm : m ≤ 32) (h : way.Ok cs m) : bt 3 way.d := by
  have str : ∀ s : Str, s.length ≤ 100 → PyData.canLay0 (.str s) = true → bt 2 (.str s) := fun s h1 h2 => .inl (.inl ⟨s, rfl, h1, h2⟩)
  have int : ∀ (n : Nat) (i : Int), -1000 ≤ i ∧ i ≤ 1000 → bt (n + 1) (.int i) := fun n i h => .inl (.inr ⟨i, rfl, h⟩)
  cases way with
  | pad n =>
    refine .inr ⟨_, rfl, by simp, fun e he => ?_⟩
    rcases List.mem_cons.mp he with rfl | he
    · exact str _ (by decide) (by decide +kernel)
    · rw [List.mem_singleton.mp he]; exact int 1 n ⟨by have := h.1; omega, by have := h.2; omega⟩
  | tur n =>
    refine .inr ⟨_, rfl, by simp, fun e he => ?_⟩
    rcases List.mem_cons.mp he with rfl | he
    · exact str _ (by decide) (by decide +kernel)
    · rw [List.mem_singleton.mp he]; exact int 1 n ⟨by have := h.1; omega, by have := h.2; omega⟩
  | lis ns =>
    refine .inr ⟨_, rfl, by simp, fun e he => ?_⟩
    rcases List.mem_cons.mp he with rfl | he
    · exact str _ (by decide) (by decide +kernel)
    · rw [List.mem_singleton.mp he]
      refine .inr ⟨_, rfl, ?_, fun e he => ?_⟩
      · rw [List.length_map]
        have := area_le hc
        have := h.1
        omega
      · obtain ⟨i, hi, rfl⟩ := List.mem_map.mp he
        exact int 0 i ⟨by have := (h.2 i hi).1; omega, by have := (h.2 i hi).2; omega⟩
/-! ### what is wrong -/
def odds : List D := [.non, .tup [], .lst [.int 4], .tup [.int 0], .tup [.int 17], .tup [.int 4, .int 4, .int 4], .tup [.bl true], .int 4, .tup [.str "4"], .tup [.int 4, .int 0]]
theorem odds_ok : ∀ d ∈ odds, pl d = true ∧ okC d = false := by decide +kernel
def wrongB : List D := [.int 0, .int 33, .non, .bl true, .str "4", .tup [.int 4], .int (-1)]
theorem wrongB_ok : ∀ d ∈ wrongB, pl d = true ∧ btw d 1 32 = false := by decide +kernel
def badCells (cs : List Int) : List D := [.non, dP (rowsF cs, 0), dP (0, colsF cs), dP (-1, 0), .lst [.int 0, .int 0], .tup [.int 0], .tup [.bl true, .int 0], .int 0]
theorem badCells_ok {cs : List Int} : ∀ d ∈ badCells cs, pl d = true ∧ isCell cs d = false := by
  intro d hd
  simp only [badCells, List.mem_cons, List.mem_nil_iff, or_false] at hd
  rcases hd with rfl | rfl | rfl | rfl | rfl | rfl | rfl | rfl
  · exact ⟨rfl, rfl⟩
  · refine ⟨pl_ints (by simp), ?_⟩
    show ((decide (0 ≤ rowsF cs) && decide (rowsF cs ≤ rowsF cs - 1)) && _) = false
    rw [decide_eq_false (show ¬ rowsF cs ≤ rowsF cs - 1 by omega), Bool.and_false, Bool.false_and]
  · refine ⟨pl_ints (by simp), ?_⟩
    show (_ && (decide (0 ≤ colsF cs) && decide (colsF cs ≤ colsF cs - 1))) = false
    rw [decide_eq_false (show ¬ colsF cs ≤ colsF cs - 1 by omega), Bool.and_false, Bool.and_false]
  · exact ⟨rfl, rfl⟩
  · exact ⟨rfl, rfl⟩
  · exact ⟨rfl, rfl⟩
  · exact ⟨rfl, rfl⟩
  · exact ⟨rfl, rfl⟩
theorem asc_ltC : ∀ {ps : List (Int × Int)}, ascC ps = true → ∀ a b r, ps = a :: b :: r → HT.lexLt [a.1, a.2] [b.1, b.2] = true := by
  rintro ps h a b r rfl
  exact (Bool.and_eq_true_iff.mp (show (HT.lexLt [a.1, a.2] [b.1, b.2] && ascC (b :: r)) = true from h)).1
theorem not_ltC {a b : Int × Int} (h : HT.lexLt [a.1, a.2] [b.1, b.2] = true) : ltC a b := by
  rw [HT.lexLt_cons, HT.lexLt_cons, HT.lexLt_nil_nil] at h
  by_cases h1 : a.1 = b.1
  · rw [if_pos h1] at h
    by_cases h2 : a.2 = b.2
    · rw [if_pos h2] at h; cases h
    · rw [if_neg h2] at h; exact .inr ⟨h1, of_decide_eq_true h⟩
  · rw [if_neg h1] at h
    exact .inl (of_decide_eq_true h)
theorem ltC_irrefl {a : Int × Int} (h : ltC a a) : False := by
  rcases h with h | ⟨_, h⟩ <;> omega
theorem ltC_trans {a b c : Int × Int} (h1 : ltC a b) (h2 : ltC b c) : ltC a c := by
  unfold ltC at *
  omega
theorem asc_pair : ∀ {ps : List (Int × Int)}, ascC ps = true → ps.Pairwise ltC
  | [], _ => .nil
  | [_], _ => List.pairwise_singleton _ _
  | a :: b :: r, h => by
    have h' := Bool.and_eq_true_iff.mp (show (HT.lexLt [a.1, a.2] [b.1, b.2] && ascC (b :: r)) = true from h)
    have ih := asc_pair h'.2
    have hab := not_ltC h'.1
    refine List.pairwise_cons.mpr ⟨fun x hx => ?_, ih⟩
    rcases List.mem_cons.mp hx with rfl | hx
    · exact hab
    · exact ltC_trans hab ((List.pairwise_cons.mp ih).1 x hx)
theorem wrongs_ok {cs : List Int} {ps : List (Int × Int)} (hc : CsOk cs) (hl : ps.length ≤ 300) (ha : ps.Pairwise ltC) : ∀ d ∈ wrongs cs ps, pl d = true ∧ isLot cs d = false := by
  intro d hd
  unfold wrongs at hd
  rcases List.mem_append.mp hd with hd | hd
  · simp only [List.mem_cons, List.mem_nil_iff, or_false] at hd
    rcases hd with rfl | rfl | rfl | rfl | rfl | rfl | rfl | rfl | rfl | rfl | rfl
    · exact ⟨rfl, rfl⟩
    · refine ⟨pl_lst_of (fun d hd => ?_) (by rw [List.length_map]; omega), rfl⟩
      obtain ⟨p, _, rfl⟩ := List.mem_map.mp hd
      exact pl_ints (by simp)
    · refine ⟨pl_cells (ps := [(0, colsF cs)]) (by simp), ?_⟩
      have h1 := (badCells_ok (cs := cs) (dP (0, colsF cs)) (by simp [badCells])).2
      show (([dP (0, colsF cs)] : List D).all (isCell cs) && _) = false
      rw [List.all_cons, h1]; rfl
    · refine ⟨pl_cells (ps := [(rowsF cs, 0)]) (by simp), ?_⟩
      have h1 := (badCells_ok (cs := cs) (dP (rowsF cs, 0)) (by simp [badCells])).2
      show (([dP (rowsF cs, 0)] : List D).all (isCell cs) && _) = false
      rw [List.all_cons, h1]; rfl
    · exact ⟨pl_cells (ps := [(-1, 0)]) (by simp), rfl⟩
    · refine ⟨pl_cells (ps := [(0, 0), (0, 0)]) (by simp), ?_⟩
      show (_ && ascC [(0, 0), (0, 0)]) = false
      rw [show ascC [(0, 0), (0, 0)] = false from rfl, Bool.and_false]
    · exact ⟨rfl, rfl⟩
    · exact ⟨rfl, rfl⟩
    · exact ⟨rfl, rfl⟩
    · exact ⟨rfl, rfl⟩
    · refine ⟨rfl, ?_⟩
      show (([D.tup [.int 0, .bl false]] : List D).all (isCell cs) && _) = false
      rw [List.all_cons, show isCell cs (.tup [.int 0, .bl false]) = false from Bool.and_false _]; rfl
  · split at hd
    · rename_i h1
      simp only [List.mem_cons, List.mem_nil_iff, or_false] at hd
      match ps, h1 with
      | a :: b :: r, _ =>
        have hab : ltC a b := (List.pairwise_cons.mp ha).1 b List.mem_cons_self
        rcases hd with rfl | rfl
        · refine ⟨pl_cells (by rw [List.length_reverse]; omega), ?_⟩
          show (_ && ascC (lotOf (dLot (a :: b :: r).reverse))) = false
          rw [lotOf_d]
          cases q : ascC (a :: b :: r).reverse with
          | false => exact Bool.and_false _
          | true =>
            have := asc_pair q
            rw [List.pairwise_reverse] at this
            exact absurd (ltC_trans hab ((List.pairwise_cons.mp this).1 b List.mem_cons_self)) ltC_irrefl
        · refine ⟨pl_cells (by rw [List.length_append, List.length_take]; omega), ?_⟩
          show (_ && ascC (lotOf (dLot (a :: b :: r ++ (a :: b :: r).take 1)))) = false
          rw [lotOf_d]
          cases q : ascC (a :: b :: r ++ (a :: b :: r).take 1) with
          | false => exact Bool.and_false _
          | true =>
            have := asc_pair q
            rw [List.pairwise_append] at this
            exact absurd (this.2.2 a List.mem_cons_self a List.mem_cons_self) ltC_irrefl
    · cases hd
/-! ### layings alike -/
theorem pad_shift {cs : List Int} {m n : Int} {p : Int × Int} : bankF cs m (.pad (n + m)) p = bankF cs m (.pad n) p := by
  show (p.1 * (colsF cs + (n + m)) + p.2) % m = (p.1 * (colsF cs + n) + p.2) % m
  have e : p.1 * (colsF cs + (n + m)) + p.2 = (p.1 * (colsF cs + n) + p.2) + p.1 * m := by
    rw [← Int.add_assoc, Int.mul_add]
    omega
  rw [e, Int.add_mul_emod_self_right]
theorem tur_shift {cs : List Int} {m n : Int} {p : Int × Int} : bankF cs m (.tur (n + colsF cs)) p = bankF cs m (.tur n) p := by
  show (p.1 * colsF cs + (p.2 + (n + colsF cs) * p.1) % colsF cs) % m = (p.1 * colsF cs + (p.2 + n * p.1) % colsF cs) % m
  have e : p.2 + (n + colsF cs) * p.1 = (p.2 + n * p.1) + p.1 * colsF cs := by
    rw [Int.add_mul, Int.mul_comm (colsF cs)]
    omega
  rw [e, Int.add_mul_emod_self_right]
theorem bank_b {cs : List Int} {m : Int} {way : Way} {p : Int × Int} (h1 : 1 ≤ m) (h2 : m ≤ 32) (hw : way.Ok cs m) : 0 ≤ bankF cs m way p ∧ bankF cs m way p ≤ 32 := by
  cases way with
  | pad n => exact ⟨Int.emod_nonneg _ (by omega), by have := Int.emod_lt_of_pos (p.1 * (colsF cs + n) + p.2) (show 0 < m by omega); show _ % m ≤ 32; omega⟩
  | tur n => exact ⟨Int.emod_nonneg _ (by omega), by have := Int.emod_lt_of_pos (p.1 * colsF cs + (p.2 + n * p.1) % colsF cs) (show 0 < m by omega); show _ % m ≤ 32; omega⟩
  | lis ns =>
    show 0 ≤ ns.getD _ 0 ∧ ns.getD _ 0 ≤ 32
    rw [List.getD_eq_getElem?_getD]
    cases q : ns[(p.1 * colsF cs + p.2).toNat]? with
    | none => exact ⟨Int.le_refl _, by decide⟩
    | some x =>
      have := hw.2 x (List.mem_of_getElem? q)
      exact ⟨this.1, by show x ≤ 32; omega⟩
theorem cost_b {bs : List Int} (h : bs.length ≤ 1000) : 0 ≤ costF bs ∧ costF bs ≤ 1000 := by
  refine ⟨maxI_le _ 0 List.mem_cons_self, maxI_bound (by decide) fun y hy => ?_⟩
  obtain ⟨b, _, rfl⟩ := List.mem_map.mp hy
  unfold cnt
  have := List.length_filter_le (fun x => decide (x = b)) bs
  omega
section
variable {T : List (Addr × Str)} {W : Wld T} {K : PySem.W.Frag} {mg : Str → Option Value} {ec : Ec}
theorem ed_isCau (C : EcOk K mg ec) {f : List D → Rs → Prop} {ta : XK → TA} {env : Env'} {ds : List D} {c : Addr} (hC : c ∈ [ec.BadCell, ec.BadBanks, ec.BadCounts, ec.BadLaying, ec.BadLot]) (h : ∀ E, EA W (ta E) env ds) (hf : f ds (.exc c [])) :
    ED W (tCB (rIsU K) (tCons (tLam T (TCau K ec.LaneError) fun E => tCall (SpR T f) [] E (ta E)) (tCons (tC (.ref c)) tNil))) env (.bl true) := by
  obtain ⟨h1, h2, h3⟩ := C.is c hC
  exact ed_CB (ea_cons (ed_cau h hf fun C' fs e => by cases e; exact h1) (ea_cons ed_raw ea_nil)) (rdl_isX h2 h3)
end
end K62

set_option Elab.async false
set_option linter.all false
set_option maxRecDepth 100000
set_option maxHeartbeats 4000000
/-! What is raised, in plain terms; layings alike. -/
namespace K62
open PySem PySem.Spec PyProof.Rows L2 LamX C8 Fx
theorem pad_ok {cs : List Int} {m n : Int} (h : (Way.pad n).Ok cs m) (h1 : 1 ≤ m) (h2 : n + m ≤ 31) : (Way.pad (n + m)).Ok cs m := by
  have := h.1
  exact ⟨by omega, h2⟩
theorem tur_ok {cs : List Int} {m n : Int} (h : (Way.tur n).Ok cs m) (hc : CsOk cs) (h2 : n + colsF cs ≤ 31) : (Way.tur (n + colsF cs)).Ok cs m := by
  have := h.1
  have := hc.b
  exact ⟨by omega, h2⟩
section
variable {ec : Ec} {c b x q : D} {cs : List Int} {m : Int}
theorem pl_non : pl .non = true := rfl
theorem xLayC (hc : pl c = true) (h : okC c = false) (hb : pl b = true) (hx : pl x = true) : fALay ec [c, b, x] (.exc ec.BadCounts []) := ⟨_, _, _, rfl, hc, hb, hx, ifF h⟩
theorem xCostC (hc : pl c = true) (h : okC c = false) (hb : pl b = true) (hx : pl x = true) (hq : pl q = true) : fACost ec [c, b, x, q] (.exc ec.BadCounts []) := ⟨_, _, _, _, rfl, hc, hb, hx, hq, ifF h⟩
theorem xLayB (hc : CsOk cs) (hb : pl b = true) (h : btw b 1 32 = false) (hx : pl x = true) : fALay ec [dI cs, b, x] (.exc ec.BadBanks []) := ⟨_, _, _, rfl, hc.pl, hb, hx, by
  unfold rLay
  rw [okC_dI hc, h]; rfl⟩
theorem xBankB (hc : CsOk cs) (hb : pl b = true) (h : btw b 1 32 = false) (hx : pl x = true) (hq : pl q = true) : fABank ec [dI cs, b, x, q] (.exc ec.BadBanks []) := ⟨_, _, _, _, rfl, hc.pl, hb, hx, hq, by
  unfold rBank
  rw [okC_dI hc, h]; rfl⟩
theorem xBankL (hc : CsOk cs) (h1 : 1 ≤ m) (h2 : m ≤ 32) (hx : pl x = true) (h : isLay cs m x = false) (hq : pl q = true) : fABank ec [dI cs, .int m, x, q] (.exc ec.BadLaying []) := ⟨_, _, _, _, rfl, hc.pl, pl_int, hx, hq, by
  unfold rBank
  rw [okC_dI hc, btw_m h1 h2, csOf_dI, show intOf (.int m) = m from rfl, h]; rfl⟩
theorem xCostL (hc : CsOk cs) (h1 : 1 ≤ m) (h2 : m ≤ 32) (hx : pl x = true) (h : isLay cs m x = false) (hq : pl q = true) : fACost ec [dI cs, .int m, x, q] (.exc ec.BadLaying []) := ⟨_, _, _, _, rfl, hc.pl, pl_int, hx, hq, by
  unfold rCost
  rw [okC_dI hc, btw_m h1 h2, csOf_dI, show intOf (.int m) = m from rfl, h]; rfl⟩
theorem xBankQ {way : Way} (hc : CsOk cs) (h1 : 1 ≤ m) (h2 : m ≤ 32) (hw : way.Ok cs m) (hq : pl q = true) (h : isCell cs q = false) : fABank ec [dI cs, .int m, way.d, q] (.exc ec.BadCell []) := ⟨_, _, _, _, rfl, hc.pl, pl_int, Way.pl hc hw, hq, by
  unfold rBank
  rw [okC_dI hc, btw_m h1 h2, csOf_dI, show intOf (.int m) = m from rfl, isLay_d hw, h]; rfl⟩
theorem xCostQ {way : Way} (hc : CsOk cs) (h1 : 1 ≤ m) (h2 : m ≤ 32) (hw : way.Ok cs m) (hq : pl q = true) (h : isLot cs q = false) : fACost ec [dI cs, .int m, way.d, q] (.exc ec.BadLot []) := ⟨_, _, _, _, rfl, hc.pl, pl_int, Way.pl hc hw, hq, by
  unfold rCost
  rw [okC_dI hc, btw_m h1 h2, csOf_dI, show intOf (.int m) = m from rfl, isLay_d hw, h]; rfl⟩
theorem okLast {ec : Ec} : fACost ec [dI [3], .int 2, (Way.pad 0).d, dLot []] (.ret (.int 0)) :=
  have hc : CsOk [3] := ⟨.inl rfl, by decide⟩
  have hw : (Way.pad 0).Ok [3] 2 := ⟨by decide, by decide⟩
  ⟨_, _, _, _, rfl, hc.pl, pl_int, Way.pl hc hw, pl_cells (by simp), (rCost_ok (ps := []) hc (by decide) (by decide) hw (fun p h => by cases h) rfl).symm⟩
end
end K62

set_option Elab.async false
set_option linter.all false
set_option maxRecDepth 100000
set_option maxHeartbeats 4000000
/-! The law. -/
namespace K62
open PySem PySem.Spec PyProof.Rows L2 LamX C8 Fx
section
variable {P : Program} {w : World} {K : PySem.W.Frag} {mg : Str → Option Value} {base : Heap} {T : List (Addr × Str)} {cdv cdc : Value} {c0 P0 : Addr} {ec : Ec}
theorem ne_selfI (a : Int) : (!decide (a = a)) = false := by simp
theorem ne_self (a : Str) : (!decide (a = a)) = false := by simp
theorem nd_law : (["_law_script", "_law_draw", "_law_turn", "_law_size_here", "_law_counts_here", "_law_lap", "_law_many_here", "_law_way_here", "_law_cells_here", "_law_lot_here", "_law_bent_here", "_law_spot", "_law_due", "_law_step", "_law_odd", "_law_several", "_law_wrong", "_law_tall", "_law_broad", "_law_bad", "_law_one"] : List PySem.Str).Nodup := by decide +kernel
theorem ok_law (F : Df K mg "law" (top 47) ["_law_script"] (.ref c0)) (TB : TabB base mg c0 P0) (hT : (P0, ("law.<locals>.<lambda>" : Str)) ∈ T) (hu1 : ∀ p ∈ T, p.1 = P0 → p.2 = ("law.<locals>.<lambda>" : Str)) (B : Bn mg) (C : EcOk K mg ec) (Fc : Df K mg "_law_caught" (top 31) ["_law_task"] cdc) (c_law_begun : Cal P w K mg base 2 "_law_begun" (SpBegunX T K) []) (c_law_take : Cal P w K mg base 3 "_law_take" (SpSx T 1 fDraw) []) (c_law_pick : Cal P w K mg base 4 "_law_pick" (SpSx T 1 fPick) []) (c_law_few_of : Cal P w K mg base 4 "_law_few_of" (SpSx T 300 fFew) []) (c_law_way : Cal P w K mg base 5 "_law_way" (SpSx T 300 fWay) []) (c_law_bent : Cal P w K mg base 8 "_law_bent" (SpSx T 9 (fBent 3)) []) (c_law_wrong_lot : Cal P w K mg base 5 "_law_wrong_lot" (SpSx T 1 fWrong) []) (c_law_cells : Cal P w K mg base 2 "_law_cells" (SpD T fCells) []) (c_law_says : Cal P w K mg base 1 "_law_says" (SpD T fSays) []) (c_law_box : Cal P w K mg base 1 "_law_box" (SpD T fShape) []) (c_law_bank : Cal P w K mg base 1 "_law_bank" (SpD T fBank) []) (c_law_price : Cal P w K mg base 2 "_law_price" (SpD T fCost) []) (c_law_is_way : Cal P w K mg base 2 "_law_is_way" (SpD T fIsLay) []) (c_law_lines_right : Cal P w K mg base 7 "_law_lines_right" (SpD T fLines) []) (c_is_laying : CalXK P w K mg base 4 "is_laying" ["counts", "banks", "thing"] (SpR T (fALay ec))) (c_bank_of : CalXK P w K mg base 5 "bank_of" ["counts", "banks", "laying", "cell"] (SpR T (fABank ec))) (c_cost : CalXK P w K mg base 6 "cost" ["counts", "banks", "laying", "lot"] (SpR T (fACost ec))) : RunG P w K mg base (30 + 1) "law" ["_law_script"] (SpLaw T K) := by
  have nd := nd_law
  refine runG_of (N := ["_law_script", "_law_draw", "_law_turn", "_law_size_here", "_law_counts_here", "_law_lap", "_law_many_here", "_law_way_here", "_law_cells_here", "_law_lot_here", "_law_bent_here", "_law_spot", "_law_due", "_law_step", "_law_odd", "_law_several", "_law_wrong", "_law_tall", "_law_broad", "_law_bad", "_law_one"]) F (by decide +kernel) (fun a A outer s H E hr hgd => ⟨_, (pss_cons (ps_set (i := 1) nd rfl (Or.inr rfl) (pe_c c_law_begun hr (by omega) rfl (pa_cons (pv 0) pa_nil)))
    (pss_cons (ps_for PassesOwn.never rfl (pi_range1 rfl (by exact B.range) (pa_cons (pe_op op_add pe_int (pe_callB (call_min2 rfl) rfl (by exact B.min) (by decide +kernel) (pa_cons (pe_callB (klen K) rfl (by exact B.len) (by decide +kernel) (pa_cons (pv 0) pa_nil)) (pa_cons pe_int pa_nil)))) pa_nil)) (pg_name (i := 2) nd rfl (Or.inl rfl)) (pss_cons (ps_set (i := 3) nd rfl (Or.inr rfl) (pe_c c_law_pick hr (by omega) rfl (pa_cons (pv 1) (pa_cons (pe_lst (pa_cons pe_int (pa_cons pe_int (pa_cons pe_int pa_nil)))) pa_nil))))
    (pss_cons (ps_set (i := 4) nd rfl (Or.inr rfl) (pe_callTy (ktuple K) rfl (by exact B.tuple) (by decide +kernel) (pa_cons (pe_lc rfl nd (pi_range1 rfl (by exact B.range) (pa_cons (pe_op op_add pe_int (pe_c c_law_take hr (by omega) rfl (pa_cons (pv 1) (pa_cons pe_int pa_nil)))) pa_nil)) (blkOk_by (own := [("_law_lap", 5)]) (by rfl)) (fun _ _ _ _ _ => (pg_name (i := 5) nd rfl (Or.inl rfl))) (fun _ _ _ _ _ => pts_nil) (fun _ _ _ _ _ => (pe_op op_add pe_int (pe_c c_law_take hr (by omega) rfl (pa_cons (pv 1) (pa_cons (pv 3) pa_nil)))))) pa_nil)))
    (pss_cons (ps_set (i := 6) nd rfl (Or.inr rfl) (pe_c c_law_pick hr (by omega) rfl (pa_cons (pv 1) (pa_cons (pe_lst (pa_cons pe_int (pa_cons pe_int (pa_cons pe_int (pa_cons pe_int (pa_cons pe_int (pa_cons pe_int (pa_cons pe_int (pa_cons (pe_op op_add pe_int (pe_c c_law_take hr (by omega) rfl (pa_cons (pv 1) (pa_cons pe_int pa_nil)))) pa_nil))))))))) pa_nil))))
    (pss_cons (ps_asg (pe_tup (pa_cons (pe_c c_law_way hr (by omega) rfl (pa_cons (pv 1) (pa_cons (pv 4) (pa_cons (pv 6) pa_nil)))) (pa_cons (pe_c c_law_cells hr (by omega) rfl (pa_cons (pv 4) pa_nil)) pa_nil))) (pg_tup rfl (pgs_cons (pg_name (i := 7) nd rfl (Or.inr rfl)) (pgs_cons (pg_name (i := 8) nd rfl (Or.inl rfl)) pgs_nil))))
    (pss_cons (ps_set (i := 9) nd rfl (Or.inl rfl) (pe_callTy (ktuple K) rfl (by exact B.tuple) (by decide +kernel) (pa_cons (pe_c c_law_few_of hr (by omega) rfl (pa_cons (pv 1) (pa_cons (pv 8) (pa_cons (pe_op op_add pe_int (pe_c c_law_take hr (by omega) rfl (pa_cons (pv 1) (pa_cons pe_int pa_nil)))) pa_nil)))) pa_nil)))
    (pss_cons (ps_if (PW.pt (pw_or (pt_cmpR op_notBl (pe_cx c_is_laying.x hr (by omega) rfl takesN (pa_cons (pv 4) (pa_cons (pv 6) (pa_cons (pv 7) pa_nil)))) pe_bl (nomark _)) (pw_or1 (pt_cmpR op_notBl (pe_cxk c_is_laying hr (by omega) rfl takesN (pk_cons (pv 7) (pk_cons (pv 6) (pk_cons (pv 4) pk_nil)))) pe_bl (nomark _))))) (pss_one (ps_ret pe_bl)) pss_nil)
    (pss_cons (ps_set (i := 10) nd rfl (Or.inr rfl) (pe_ifExp (pt_cmpR op_gt (pe_c c_law_take hr (by omega) rfl (pa_cons (pv 1) (pa_cons pe_int pa_nil))) pe_int (nomark _)) (pe_c c_law_bent hr (by omega) rfl (pa_cons (pv 1) (pa_cons (pv 7) pa_nil))) (pe_c c_law_pick hr (by omega) rfl (pa_cons (pv 1) (pa_cons (pe_lst (pa_cons (pe_tup (pa_cons pe_str (pa_cons pe_int pa_nil))) (pa_cons (pe_tup (pa_cons pe_str (pa_cons (pe_un un_neg pe_int) pa_nil))) (pa_cons (pe_tup (pa_cons pe_str (pa_cons (pe_tup pa_nil) pa_nil))) (pa_cons (pe_tup (pa_cons pe_str (pa_cons pe_int pa_nil))) (pa_cons pe_non pa_nil)))))) pa_nil)))))
    (pss_cons (ps_if (pt_not (pt_val (pe_c c_law_says hr (by omega) rfl (pa_cons (pe_cx c_is_laying.x hr (by omega) rfl takesN (pa_cons (pv 4) (pa_cons (pv 6) (pa_cons (pv 10) pa_nil)))) (pa_cons (pe_c c_law_is_way hr (by omega) rfl (pa_cons (pv 4) (pa_cons (pv 6) (pa_cons (pv 10) pa_nil)))) pa_nil))))) (pss_one (ps_ret pe_bl)) pss_nil)
    (pss_cons (ps_for PassesOwn.never rfl (kpi_list K (pv 8)) (pg_name (i := 11) nd rfl (Or.inr rfl)) (pss_cons (ps_set (i := 12) nd rfl (Or.inl rfl) (pe_c c_law_bank hr (by omega) rfl (pa_cons (pv 4) (pa_cons (pv 6) (pa_cons (pv 7) (pa_cons (pv 11) pa_nil))))))
    (pss_cons (ps_if (pt_cmpR op_ne (pe_callB (krepr K hgd (room65 hr)) rfl (by exact B.repr) (by decide +kernel) (pa_cons (pe_lst (pa_cons (pe_cx c_bank_of.x hr (by omega) rfl takesN (pa_cons (pv 4) (pa_cons (pv 6) (pa_cons (pv 7) (pa_cons (pv 11) pa_nil))))) (pa_cons (pe_cxk c_bank_of hr (by omega) rfl takesN (pk_cons (pv 11) (pk_cons (pv 7) (pk_cons (pv 6) (pk_cons (pv 4) pk_nil))))) pa_nil))) pa_nil)) (pe_callB (krepr K hgd (room65 hr)) rfl (by exact B.repr) (by decide +kernel) (pa_cons (pe_lst (pa_cons (pv 12) (pa_cons (pv 12) pa_nil))) pa_nil)) (nomark _)) (pss_one (ps_ret pe_bl)) pss_nil)
    (pss_one (ps_if (pt_cmpR op_ne (pe_ix (kix K) (pv 7) pe_int (fun _ _ => rfl)) pe_str (nomark _)) (pss_cons (ps_set (i := 13) nd rfl (Or.inl rfl) (pe_ifExp (pt_cmpR op_eq (pe_ix (kix K) (pv 7) pe_int (fun _ _ => rfl)) pe_str (nomark _)) (pv 6) (pe_ix (kix K) (pv 4) (pe_un un_neg pe_int) (fun _ _ => rfl))))
    (pss_one (ps_if (PW.pt (pw_and (pt_cmpR op_le (pe_op op_add (pe_callTy call_int1 rfl (by exact B.int) (by decide +kernel) (pa_cons (pe_ix (kix K) (pv 7) pe_int (fun _ _ => rfl)) pa_nil)) (pv 13)) pe_int (nomark _)) (pw_and1 (pt_cmpR (kne K hr.units) (pe_cx c_bank_of.x hr (by omega) rfl takesN (pa_cons (pv 4) (pa_cons (pv 6) (pa_cons (pe_tup (pa_cons (pe_ix (kix K) (pv 7) pe_int (fun _ _ => rfl)) (pa_cons (pe_op op_add (pe_ix (kix K) (pv 7) pe_int (fun _ _ => rfl)) (pv 13)) pa_nil))) (pa_cons (pv 11) pa_nil))))) (pv 12) (nomark _))))) (pss_one (ps_ret pe_bl)) pss_nil))) pss_nil)))))
    (pss_cons (ps_set (i := 12) nd rfl (Or.inl rfl) (pe_c c_law_price hr (by omega) rfl (pa_cons (pv 4) (pa_cons (pv 6) (pa_cons (pv 7) (pa_cons (pv 9) pa_nil))))))
    (pss_cons (ps_if (pt_cmpR op_ne (pe_callB (krepr K hgd (room65 hr)) rfl (by exact B.repr) (by decide +kernel) (pa_cons (pe_lst (pa_cons (pe_cx c_cost.x hr (by omega) rfl takesN (pa_cons (pv 4) (pa_cons (pv 6) (pa_cons (pv 7) (pa_cons (pv 9) pa_nil))))) (pa_cons (pe_cxk c_cost hr (by omega) rfl takesN (pk_cons (pv 9) (pk_cons (pv 7) (pk_cons (pv 6) (pk_cons (pv 4) pk_nil))))) pa_nil))) pa_nil)) (pe_callB (krepr K hgd (room65 hr)) rfl (by exact B.repr) (by decide +kernel) (pa_cons (pe_lst (pa_cons (pv 12) (pa_cons (pv 12) pa_nil))) pa_nil)) (nomark _)) (pss_one (ps_ret pe_bl)) pss_nil)
    (pss_cons (ps_if (pt_not (pt_val (pe_c c_law_lines_right hr (by omega) rfl (pa_cons (pv 4) (pa_cons (pv 6) (pa_cons (pe_c c_law_take hr (by omega) rfl (pa_cons (pv 1) (pa_cons pe_int pa_nil))) pa_nil)))))) (pss_one (ps_ret pe_bl)) pss_nil)
    (pss_cons (ps_set (i := 14) nd rfl (Or.inr rfl) (pe_c c_law_pick hr (by omega) rfl (pa_cons (pv 1) (pa_cons (pe_lst (pa_cons pe_non (pa_cons (pe_tup pa_nil) (pa_cons (pe_lst (pa_cons pe_int pa_nil)) (pa_cons (pe_tup (pa_cons pe_int pa_nil)) (pa_cons (pe_tup (pa_cons pe_int pa_nil)) (pa_cons (pe_tup (pa_cons pe_int (pa_cons pe_int (pa_cons pe_int pa_nil)))) (pa_cons (pe_tup (pa_cons pe_bl pa_nil)) (pa_cons pe_int (pa_cons (pe_tup (pa_cons pe_str pa_nil)) (pa_cons (pe_tup (pa_cons pe_int (pa_cons pe_int pa_nil))) pa_nil))))))))))) pa_nil))))
    (pss_cons (ps_set (i := 15) nd rfl (Or.inl rfl) (pe_lst (pa_cons (pe_callB (kisU K) rfl (by exact B.isinstance) (by decide +kernel) (pa_cons (pe_cau (k := 12) (T := T) Fc (by decide +kernel) (by rfl) (by exact .inl rfl) (fun g => cau_gives2 rfl C.LaneError.mgC (by decide) rfl (by decide +kernel) rfl (by decide) (by decide) rfl) rfl TB rfl hT hu1 (hr.mono (by omega)) (lamS_by (by rfl)) rfl (fun _ _ _ _ _ => rfl) (fun _ _ _ _ E _ _ hr => (pe_cx c_is_laying.x hr (by omega) rfl (takes_of rfl rfl rfl rfl) (pa_cons (pv 14) (pa_cons pe_non (pa_cons (pv 7) pa_nil)))))) (pa_cons (pe_glob (v := .ref ec.BadCounts) rfl C.BadCounts.mgC rfl) pa_nil))) pa_nil)))
    (pss_cons (ps_expr (pe_bm PySem.F.plainAttrs_list PySem.F.slot_list_append PySem.F.type_list_append mt_append (pv 15) (pa_cons (pe_callB (kisU K) rfl (by exact B.isinstance) (by decide +kernel) (pa_cons (pe_cau (k := 12) (T := T) Fc (by decide +kernel) (by rfl) (by exact .inl rfl) (fun g => cau_gives2 rfl C.LaneError.mgC (by decide) rfl (by decide +kernel) rfl (by decide) (by decide) rfl) rfl TB rfl hT hu1 (hr.mono (by omega)) (lamS_by (by rfl)) rfl (fun _ _ _ _ _ => rfl) (fun _ _ _ _ E _ _ hr => (pe_cx c_cost.x hr (by omega) rfl (takes_of rfl rfl rfl rfl) (pa_cons (pv 14) (pa_cons pe_int (pa_cons pe_non (pa_cons pe_non pa_nil))))))) (pa_cons (pe_glob (v := .ref ec.BadCounts) rfl C.BadCounts.mgC rfl) pa_nil))) pa_nil)))
    (pss_cons (ps_set (i := 16) nd rfl (Or.inr rfl) (pe_c c_law_pick hr (by omega) rfl (pa_cons (pv 1) (pa_cons (pe_lst (pa_cons pe_int (pa_cons pe_int (pa_cons pe_non (pa_cons pe_bl (pa_cons pe_str (pa_cons (pe_tup (pa_cons pe_int pa_nil)) (pa_cons (pe_un un_neg pe_int) pa_nil)))))))) pa_nil))))
    (pss_cons (ps_expr (pe_bm PySem.F.plainAttrs_list PySem.F.slot_list_append PySem.F.type_list_append mt_append (pv 15) (pa_cons (pe_callB (kisU K) rfl (by exact B.isinstance) (by decide +kernel) (pa_cons (pe_cau (k := 12) (T := T) Fc (by decide +kernel) (by rfl) (by exact .inl rfl) (fun g => cau_gives2 rfl C.LaneError.mgC (by decide) rfl (by decide +kernel) rfl (by decide) (by decide) rfl) rfl TB rfl hT hu1 (hr.mono (by omega)) (lamS_by (by rfl)) rfl (fun _ _ _ _ _ => rfl) (fun _ _ _ _ E _ _ hr => (pe_cx c_is_laying.x hr (by omega) rfl (takes_of rfl rfl rfl rfl) (pa_cons (pv 4) (pa_cons (pv 16) (pa_cons (pv 7) pa_nil)))))) (pa_cons (pe_glob (v := .ref ec.BadBanks) rfl C.BadBanks.mgC rfl) pa_nil))) pa_nil)))
    (pss_cons (ps_expr (pe_bm PySem.F.plainAttrs_list PySem.F.slot_list_append PySem.F.type_list_append mt_append (pv 15) (pa_cons (pe_callB (kisU K) rfl (by exact B.isinstance) (by decide +kernel) (pa_cons (pe_cau (k := 12) (T := T) Fc (by decide +kernel) (by rfl) (by exact .inl rfl) (fun g => cau_gives2 rfl C.LaneError.mgC (by decide) rfl (by decide +kernel) rfl (by decide) (by decide) rfl) rfl TB rfl hT hu1 (hr.mono (by omega)) (lamS_by (by rfl)) rfl (fun _ _ _ _ _ => rfl) (fun _ _ _ _ E _ _ hr => (pe_cx c_bank_of.x hr (by omega) rfl (takes_of rfl rfl rfl rfl) (pa_cons (pv 4) (pa_cons (pv 16) (pa_cons pe_non (pa_cons pe_non pa_nil))))))) (pa_cons (pe_glob (v := .ref ec.BadBanks) rfl C.BadBanks.mgC rfl) pa_nil))) pa_nil)))
    (pss_cons (ps_if (pt_not (pt_val (pe_c c_law_is_way hr (by omega) rfl (pa_cons (pv 4) (pa_cons (pv 6) (pa_cons (pv 10) pa_nil)))))) (pss_cons (ps_expr (pe_bm PySem.F.plainAttrs_list PySem.F.slot_list_append PySem.F.type_list_append mt_append (pv 15) (pa_cons (pe_callB (kisU K) rfl (by exact B.isinstance) (by decide +kernel) (pa_cons (pe_cau (k := 12) (T := T) Fc (by decide +kernel) (by rfl) (by exact .inl rfl) (fun g => cau_gives2 rfl C.LaneError.mgC (by decide) rfl (by decide +kernel) rfl (by decide) (by decide) rfl) rfl TB rfl hT hu1 (hr.mono (by omega)) (lamS_by (by rfl)) rfl (fun _ _ _ _ _ => rfl) (fun _ _ _ _ E _ _ hr => (pe_cx c_bank_of.x hr (by omega) rfl (takes_of rfl rfl rfl rfl) (pa_cons (pv 4) (pa_cons (pv 6) (pa_cons (pv 10) (pa_cons pe_non pa_nil))))))) (pa_cons (pe_glob (v := .ref ec.BadLaying) rfl C.BadLaying.mgC rfl) pa_nil))) pa_nil)))
    (pss_one (ps_expr (pe_bm PySem.F.plainAttrs_list PySem.F.slot_list_append PySem.F.type_list_append mt_append (pv 15) (pa_cons (pe_callB (kisU K) rfl (by exact B.isinstance) (by decide +kernel) (pa_cons (pe_cau (k := 12) (T := T) Fc (by decide +kernel) (by rfl) (by exact .inl rfl) (fun g => cau_gives2 rfl C.LaneError.mgC (by decide) rfl (by decide +kernel) rfl (by decide) (by decide) rfl) rfl TB rfl hT hu1 (hr.mono (by omega)) (lamS_by (by rfl)) rfl (fun _ _ _ _ _ => rfl) (fun _ _ _ _ E _ _ hr => (pe_cx c_cost.x hr (by omega) rfl (takes_of rfl rfl rfl rfl) (pa_cons (pv 4) (pa_cons (pv 6) (pa_cons (pv 10) (pa_cons pe_non pa_nil))))))) (pa_cons (pe_glob (v := .ref ec.BadLaying) rfl C.BadLaying.mgC rfl) pa_nil))) pa_nil))))) pss_nil)
    (pss_cons (ps_asg (pe_c c_law_box hr (by omega) rfl (pa_cons (pv 4) pa_nil)) (pg_tup rfl (pgs_cons (pg_name (i := 17) nd rfl (Or.inl rfl)) (pgs_cons (pg_name (i := 18) nd rfl (Or.inl rfl)) pgs_nil))))
    (pss_cons (ps_set (i := 11) nd rfl (Or.inr rfl) (pe_c c_law_pick hr (by omega) rfl (pa_cons (pv 1) (pa_cons (pe_lst (pa_cons pe_non (pa_cons (pe_tup (pa_cons (pv 17) (pa_cons pe_int pa_nil))) (pa_cons (pe_tup (pa_cons pe_int (pa_cons (pv 18) pa_nil))) (pa_cons (pe_tup (pa_cons (pe_un un_neg pe_int) (pa_cons pe_int pa_nil))) (pa_cons (pe_lst (pa_cons pe_int (pa_cons pe_int pa_nil))) (pa_cons (pe_tup (pa_cons pe_int pa_nil)) (pa_cons (pe_tup (pa_cons pe_bl (pa_cons pe_int pa_nil))) (pa_cons pe_int pa_nil))))))))) pa_nil))))
    (pss_cons (ps_expr (pe_bm PySem.F.plainAttrs_list PySem.F.slot_list_append PySem.F.type_list_append mt_append (pv 15) (pa_cons (pe_callB (kisU K) rfl (by exact B.isinstance) (by decide +kernel) (pa_cons (pe_cau (k := 12) (T := T) Fc (by decide +kernel) (by rfl) (by exact .inl rfl) (fun g => cau_gives2 rfl C.LaneError.mgC (by decide) rfl (by decide +kernel) rfl (by decide) (by decide) rfl) rfl TB rfl hT hu1 (hr.mono (by omega)) (lamS_by (by rfl)) rfl (fun _ _ _ _ _ => rfl) (fun _ _ _ _ E _ _ hr => (pe_cx c_bank_of.x hr (by omega) rfl (takes_of rfl rfl rfl rfl) (pa_cons (pv 4) (pa_cons (pv 6) (pa_cons (pv 7) (pa_cons (pv 11) pa_nil))))))) (pa_cons (pe_glob (v := .ref ec.BadCell) rfl C.BadCell.mgC rfl) pa_nil))) pa_nil)))
    (pss_cons (ps_set (i := 19) nd rfl (Or.inr rfl) (pe_c c_law_wrong_lot hr (by omega) rfl (pa_cons (pv 1) (pa_cons (pv 4) (pa_cons (pv 9) pa_nil)))))
    (pss_cons (ps_expr (pe_bm PySem.F.plainAttrs_list PySem.F.slot_list_append PySem.F.type_list_append mt_append (pv 15) (pa_cons (pe_callB (kisU K) rfl (by exact B.isinstance) (by decide +kernel) (pa_cons (pe_cau (k := 12) (T := T) Fc (by decide +kernel) (by rfl) (by exact .inl rfl) (fun g => cau_gives2 rfl C.LaneError.mgC (by decide) rfl (by decide +kernel) rfl (by decide) (by decide) rfl) rfl TB rfl hT hu1 (hr.mono (by omega)) (lamS_by (by rfl)) rfl (fun _ _ _ _ _ => rfl) (fun _ _ _ _ E _ _ hr => (pe_cx c_cost.x hr (by omega) rfl (takes_of rfl rfl rfl rfl) (pa_cons (pv 4) (pa_cons (pv 6) (pa_cons (pv 7) (pa_cons (pv 19) pa_nil))))))) (pa_cons (pe_glob (v := .ref ec.BadLot) rfl C.BadLot.mgC rfl) pa_nil))) pa_nil)))
    (pss_one (ps_if (pt_cmpR (kne K hr.units) (pe_lc rfl nd (kpi_list K (pv 15)) (blkOk_by (own := [("_law_one", 20)]) (by rfl)) (fun _ _ _ _ _ => (pg_name (i := 20) nd rfl (Or.inl rfl))) (fun _ _ _ _ _ => (pts_one (pt_not (pt_val (pv 20))))) (fun _ _ _ _ _ => pe_int)) (pe_lst pa_nil) (nomark _)) (pss_one (ps_ret pe_bl)) pss_nil)))))))))))))))))))))))))))
    (pss_one (ps_ret (pe_cmpR (keq K hr.units) (pe_cx c_cost.x hr (by omega) rfl takesN (pa_cons (pe_tup (pa_cons pe_int pa_nil)) (pa_cons pe_int (pa_cons (pe_tup (pa_cons pe_str (pa_cons pe_int pa_nil))) (pa_cons (pe_tup pa_nil) pa_nil))))) pe_int (nomark _)))))), ?rd⟩)
  case rd =>
    rintro vs Q ⟨sa, ns, rfl, tb, hsq, hns, hQ⟩
    have j0 := ws_start (c := 0) tb hsq
    have g0 : GOk (WS T K sa ns (Rd H sa (.lst (ns.map V.int)))) (fun _ => none) H := fun a o h => by cases h
    have A := at_start (c := 0) (N := ["_law_script", "_law_draw", "_law_turn", "_law_size_here", "_law_counts_here", "_law_lap", "_law_many_here", "_law_way_here", "_law_cells_here", "_law_lot_here", "_law_bent_here", "_law_spot", "_law_due", "_law_step", "_law_odd", "_law_several", "_law_wrong", "_law_tall", "_law_broad", "_law_bad", "_law_one"]) (ds := [.raw (.ref sa)]) g0 j0 (.cons (.raw (.ref sa)) .nil) (by simp)
    refine seq_asg ⟨.ref sa, rfl, sa, ns, _, by omega, rfl, _, 0, g0, j0, fun S lw lc ws cells G2 H2 s2 g2 j2 d hcells n1 n2 n3 => ?_⟩
    have A2 := At.drawn A (fun i s h => env0_mu h) s2 g2 j2 d n1 n2 n3
    have A3 := A2.setD 1 (.raw (.ref S))
    refine tr_seq (W := WDr (WS T K sa ns (Rd H sa (.lst (ns.map V.int)))) S lw lc cells) (po := ⟨fun _ _ => False, fun d _ => d = .bl true, fun _ _ => False, fun _ _ => False, fun _ _ _ => False, fun _ _ _ => False⟩) (fun e c => ∃ s2 s3 s4 s5 s6 s7 s8 s9 s10 s11 s12 s13 s14 s15 s16 s17 s18 s19 s20 : Slot, e = [.dat (.raw (.ref sa)), .dat (.raw (.ref S)), s2, s3, s4, s5, s6, s7, s8, s9, s10, s11, s12, s13, s14, s15, s16, s17, s18, s19, s20]) ?_ ?_ _ _ _ _ _ A3 _ ⟨fun _ _ _ _ _ _ z => z.elim, fun v d c2 G3 H3 s g j r e => (by subst e; cases r; exact hQ H3), fun _ _ _ _ _ _ z => z.elim, fun _ _ _ _ _ _ z => z.elim, fun _ _ _ _ _ _ _ _ _ _ z => z.elim⟩
    · refine tr_for (src_range1 (ea_cons (ed_op ed_int (ed_CB (ea_cons (ed_CB (ea_cons (ed_var rfl) ea_nil) rdl_lenS) (ea_cons ed_int ea_nil)) rdl_min2) rd_add) ea_nil) (by omega)).n ?_
      rintro _ rfl
      refine ⟨fun i e c => i ≤ 8 ∧ c ≤ 1000 * i ∧ ∃ s2 s3 s4 s5 s6 s7 s8 s9 s10 s11 s12 s13 s14 s15 s16 s17 s18 s19 s20 : Slot, e = [.dat (.raw (.ref sa)), .dat (.raw (.ref S)), s2, s3, s4, s5, s6, s7, s8, s9, s10, s11, s12, s13, s14, s15, s16, s17, s18, s19, s20], ⟨by omega, by omega, _, _, _, _, _, _, _, _, _, _, _, _, _, _, _, _, _, _, _, rfl⟩, ?_, fun e c ⟨_, _, h⟩ => h⟩
      rintro i d e c hd ⟨hi, hc, s2, s3, s4, s5, s6, s7, s8, s9, s10, s11, s12, s13, s14, s15, s16, s17, s18, s19, s20, rfl⟩
      have hil : i < 8 := by
        have := (List.getElem?_eq_some_iff.mp hd).1
        rw [List.length_map, List.length_range] at this
        omega
      refine ⟨_, tg_name, ?_⟩
      refine tr_setN (n := 1) (P := fun d => ∃ z : Int, d = .int z ∧ 4 ≤ z ∧ z ≤ 16) ((en_pickL rfl (ed_lst (ea_cons ed_int (ea_cons ed_int (ea_cons ed_int ea_nil))) (by simp)) (by simp) (by simp) (by show c + 1 ≤ 1099511627776; omega)).imp (Nat.le_refl _) fun d hd => by
        simp only [List.mem_cons, List.mem_nil_iff, or_false] at hd
        rcases hd with rfl | rfl | rfl <;> exact ⟨_, rfl, by decide, by decide⟩) ?_
      rintro _ ⟨z, rfl, z0, z1⟩
      refine tr_setN (n := (0 + 1) + (0 + 1) * 2) (P := fun d => ∃ cs : List Int, d = dI cs ∧ CsOk cs) (en_CB (P := fun l => ∃ cs : List Int, l = [dLI cs] ∧ CsOk cs) (EAN.imp1 (ean_cons (en_mapN (k0 := 0 + 1) (ke := 0 + 1) (n := 2) (P0 := fun l => ∃ n : Int, (1 ≤ n ∧ n ≤ 2) ∧ l = (List.range n.toNat).map fun (i : Nat) => .int i) (Pe := fun d => ∃ x : Int, d = .int x ∧ 1 ≤ x ∧ x ≤ 16) (srcN_range1 (EAN.imp1 (ean_cons (en_op (P := fun d => ∃ x : Int, d = .int x ∧ 1 ≤ x ∧ x ≤ 2) (ed_int (i := 1)).n (en_take (n := 2) rfl ed_int (by decide) (by decide) (by show _ + 1 ≤ 1099511627776; omega)) fun d1 d2 e1 ⟨x, e2, x0, x1⟩ => ⟨.int (1 + x), by rw [e1, e2]; exact rd_add, _, rfl, by omega, by omega⟩) ean_nil) fun l ⟨d, ds, e1, ⟨x, e2, x0, x1⟩, e3⟩ => ⟨x, by rw [e1, e2, e3], x0, x1⟩) (fun n h => by omega)) (fun l ⟨n, h, e⟩ => by rw [e, List.length_map, List.length_range]; omega) (by decide) (fun l _ d _ c' hc' => en_op (ed_int (i := 1)).n (en_take (n := z) rfl (ed_var rfl) (by omega) (by omega) (by show _ + 1 ≤ 1099511627776; omega)) fun d1 d2 e1 ⟨x, e2, x0, x1⟩ => ⟨.int (1 + x), by rw [e1, e2]; exact rd_add, _, rfl, by omega, by omega⟩)) ean_nil) (by
          rintro l ⟨d, ds, rfl, ⟨l0, es, ⟨n, hn, e0⟩, rfl, hl, hes⟩, rfl⟩
          obtain ⟨cs, rfl, hcs⟩ : ∃ cs : List Int, es = cs.map .int ∧ ∀ x ∈ cs, 1 ≤ x ∧ x ≤ 16 := by
            clear hl
            induction es with
            | nil => exact ⟨[], rfl, fun x h => by cases h⟩
            | cons e r ih =>
              obtain ⟨x, rfl, hx⟩ := hes e List.mem_cons_self
              obtain ⟨ns, rfl, h2⟩ := ih fun y hy => hes y (List.mem_cons_of_mem _ hy)
              exact ⟨x :: ns, rfl, fun y hy => (List.mem_cons.mp hy).elim (fun z => z ▸ hx) (h2 y)⟩
          refine ⟨cs, rfl, ?_, hcs⟩
          rw [List.length_map, e0, List.length_map, List.length_range] at hl
          omega)) (by
        rintro l ⟨cs, rfl, h⟩
        exact ⟨dI cs, rdl_tupL, cs, rfl, h⟩)) ?_
      rintro _ ⟨cs, rfl, hcs⟩
      refine tr_setN (n := 20) (P := fun d => ∃ m : Int, d = .int m ∧ 1 ≤ m ∧ m ≤ 32) (EN.lift (en_callX (k := 1) (f := fPick) (ean_cons (ed_var rfl).n (ean_cons (en_lst (P := fun l => ∃ n : Int, l = [.int 1, .int 2, .int 4, .int 4, .int 8, .int 16, .int 32, .int n] ∧ 1 ≤ n ∧ n ≤ 32) (EAN.imp1 (ean_cons (ed_int (i := 1)).n (ean_cons (ed_int (i := 2)).n (ean_cons (ed_int (i := 4)).n (ean_cons (ed_int (i := 4)).n (ean_cons (ed_int (i := 8)).n (ean_cons (ed_int (i := 16)).n (ean_cons (ed_int (i := 32)).n (ean_cons (en_op (P := fun d => ∃ x : Int, d = .int x ∧ 1 ≤ x ∧ x ≤ 32) (ed_int (i := 1)).n (en_take (n := 32) rfl ed_int (by decide) (by decide) (by show _ + 1 ≤ 1099511627776; omega)) fun d1 d2 e1 ⟨x, e2, x0, x1⟩ => ⟨.int (1 + x), by rw [e1, e2]; exact rd_add, _, rfl, by omega, by omega⟩) ean_nil)))))))) (by
            rintro l ⟨d0, l0, rfl, rfl, d1, l1, rfl, rfl, d2, l2, rfl, rfl, d3, l3, rfl, rfl, d4, l4, rfl, rfl, d5, l5, rfl, rfl, d6, l6, rfl, rfl, d7, l7, rfl, ⟨n, rfl, n0, n1⟩, rfl⟩
            exact ⟨n, rfl, n0, n1⟩)) (by
            rintro l ⟨n, rfl, _⟩
            simp)) ean_nil)) (by
          rintro l ⟨d1, l1, rfl, rfl, d2, l2, rfl, ⟨l3, rfl, n, rfl, n0, n1⟩, rfl⟩
          refine ⟨_, rfl, by simp, by simp, fun e he => ?_⟩
          simp only [List.mem_cons, List.mem_nil_iff, or_false] at he
          rcases he with rfl | rfl | rfl | rfl | rfl | rfl | rfl | rfl
          · exact ⟨_, rfl, by decide, by decide⟩
          · exact ⟨_, rfl, by decide, by decide⟩
          · exact ⟨_, rfl, by decide, by decide⟩
          · exact ⟨_, rfl, by decide, by decide⟩
          · exact ⟨_, rfl, by decide, by decide⟩
          · exact ⟨_, rfl, by decide, by decide⟩
          · exact ⟨_, rfl, by decide, by decide⟩
          · exact ⟨_, rfl, n0, n1⟩) (by show _ + 1 ≤ 1099511627776; omega)) (by omega)) ?_
      rintro _ ⟨m, rfl, m0, m1⟩
      have hb := hcs.b
      have har := area_le hcs
      have hci := all_in (cs := cs) (y := (rowsF cs).toNat) (by omega)
      have hca := all_asc (cs := cs) (y := (rowsF cs).toNat) (by omega)
      have hcl := allC_len cs hcs (rowsF cs).toNat
      refine tr_tgN (n := 0 + 300 + 0) (P := fun d => ∃ way : Way, d = .tup [way.d, .lst ((allC cs (rowsF cs).toNat).map dP)] ∧ way.Ok cs m) ((en_tup (P := fun l => ∃ way : Way, l = [way.d, .lst ((allC cs (rowsF cs).toNat).map dP)] ∧ way.Ok cs m) (EAN.imp1 (ean_cons (P := fun d => ∃ way : Way, d = way.d ∧ way.Ok cs m) (k := 0 + 300) (en_callX (n := 0) (k := 300) (f := fWay) (ean_cons (ed_var rfl).n (ean_cons (ed_var rfl).n (ean_cons (ed_var rfl).n ean_nil))) (by
          rintro l ⟨d1, l1, rfl, rfl, d2, l2, rfl, rfl, d3, l3, rfl, rfl, rfl⟩
          exact ⟨cs, m, rfl, hcs, m0, m1, fun way h => ⟨way, rfl, h⟩⟩) (by show _ + 300 ≤ 1099511627776; omega)) (ean_cons (ed_call (ea_cons (ed_var rfl) ea_nil) ⟨cs, rfl, hcs, rfl⟩).n ean_nil)) (by
        rintro l ⟨d, l1, rfl, ⟨way, rfl, hw⟩, d2, l2, rfl, rfl, rfl⟩
        exact ⟨way, rfl, hw⟩)) (by
        rintro l ⟨way, rfl, hw⟩
        simp)).imp (Nat.le_refl _) (by
        rintro d ⟨l, rfl, way, rfl, hw⟩
        exact ⟨way, rfl, hw⟩)) ?_
      rintro _ ⟨way, rfl, hw⟩
      refine ⟨_, tg_tup2, ?_⟩
      refine tr_setN (n := 310) (P := fun d => ∃ ps : List (Int × Int), d = dLot ps ∧ ps.Sublist (allC cs (rowsF cs).toNat)) (EN.lift (en_CB (P := fun l => ∃ ps : List (Int × Int), l = [.lst (ps.map dP)] ∧ ps.Sublist (allC cs (rowsF cs).toNat)) (EAN.imp1 (ean_cons (P := fun d => ∃ ps : List (Int × Int), d = .lst (ps.map dP) ∧ ps.Sublist (allC cs (rowsF cs).toNat)) (en_callX (k := 300) (f := fFew) (ean_cons (ed_var rfl).n (ean_cons (ed_var rfl).n (ean_cons (en_op (P := fun d => ∃ x : Int, d = .int x ∧ 1 ≤ x ∧ x ≤ 5) (ed_int (i := 1)).n (en_take (n := 5) rfl ed_int (by decide) (by decide) (by show _ + 1 ≤ 1099511627776; omega)) fun d1 d2 e1 ⟨x, e2, x0, x1⟩ => ⟨.int (1 + x), by rw [e1, e2]; exact rd_add, _, rfl, by omega, by omega⟩) ean_nil))) (by
          rintro l ⟨d1, l1, rfl, rfl, d2, l2, rfl, rfl, d3, l3, rfl, ⟨x, rfl, x0, x1⟩, rfl⟩
          refine ⟨_, x, rfl, by rw [List.length_map]; omega, by omega, by omega, fun l hl => ?_⟩
          obtain ⟨ps, h1, rfl⟩ := List.sublist_map_iff.mp hl
          exact ⟨ps, rfl, h1⟩) (by show _ + 300 ≤ 1099511627776; omega)) ean_nil) (by
        rintro l ⟨d, l1, rfl, ⟨ps, rfl, h⟩, rfl⟩
        exact ⟨ps, rfl, h⟩)) (by
        rintro l ⟨ps, rfl, h⟩
        exact ⟨dLot ps, rdl_tupL, ps, rfl, h⟩)) (by omega)) ?_
      rintro _ ⟨ps, rfl, hsub⟩
      have hpl : ps.length ≤ 256 := by have := hsub.length_le; omega
      have hpi : ∀ p ∈ ps, InC cs p := fun p hp => (hci p (hsub.subset hp)).1
      have hpa : ps.Pairwise ltC := hca.sublist hsub
      have hpw := Way.pl hcs hw
      have lay : ∀ x, pl x = true → fALay ec [dI cs, .int m, x] (.ret (.bl (isLay cs m x))) := fun x hx => ⟨_, _, _, rfl, hcs.pl, pl_int, hx, (rLay_ok hcs m0 m1).symm⟩
      refine tr_when (b := false) ((et_or (et_test (ed_op (ed_callR (ea_cons (ed_var rfl) (ea_cons (ed_var rfl) (ea_cons (ed_var rfl) ea_nil))) (lay _ hpw)) ed_bl rd_notB)) fun _ => et_test (ed_op (ed_callRk (ea_cons (ed_var rfl) (ea_cons (ed_var rfl) (ea_cons (ed_var rfl) ea_nil))) rfl (lay _ hpw)) ed_bl rd_notB)).eq (by rw [isLay_d hw]; rfl)) (fun z => by cases z) fun _ => ?_
      refine tr_setN (n := 0 + 1 + 10) (P := fun d => pl d = true) (en_if (k1 := 0 + 1 + 0) (Pb := fun _ => True) (etn_test (en_op (P := fun d => ∃ b, d = .bl b ∧ True) (EN.lift (k := 1) (en_take (n := 3) rfl ed_int (by decide) (by decide) (by show _ + 1 ≤ 1099511627776; omega)) (by omega)) (ed_int (i := 0)).n fun d1 d2 ⟨x, e1, _⟩ e2 => ⟨.bl (decide (0 < x)), by rw [e1, e2]; exact rd_gt, _, rfl, trivial⟩)) (fun _ => ?_) (fun _ => ?_)) ?_
      · exact EN.lift (en_callX (k := 9) (f := fBent 3) (ean_cons (ed_var rfl).n (ean_cons (ed_var rfl).n ean_nil)) (by
          rintro l ⟨d1, l1, rfl, rfl, d2, l2, rfl, rfl, rfl⟩
          exact ⟨_, rfl, way_bt hcs m1 hw, fun y hy => hy⟩) (by show _ + 9 ≤ 1099511627776; omega)) (by omega)
      · refine (EN.lift (en_pickL (es := [.tup [.str "padded", .int 32], .tup [.str "turned", .int (-1)], .tup [.str "listed", .tup []], .tup [.str "crossed", .int 1], .non]) rfl (ed_lst (ea_cons (ed_tup (ea_cons ed_str (ea_cons ed_int ea_nil)) (by simp)) (ea_cons (ed_tup (ea_cons ed_str (ea_cons (ed_un ed_int rd1_neg) ea_nil)) (by simp)) (ea_cons (ed_tup (ea_cons ed_str (ea_cons (ed_tup ea_nil (by simp)) ea_nil)) (by simp)) (ea_cons (ed_tup (ea_cons ed_str (ea_cons ed_int ea_nil)) (by simp)) (ea_cons ed_non ea_nil))))) (by simp)) (by simp) (by simp) (by show _ + 1 ≤ 1099511627776; omega)) (by omega)).imp (Nat.le_refl _) fun d hd => ?_
        simp only [List.mem_cons, List.mem_nil_iff, or_false] at hd
        rcases hd with rfl | rfl | rfl | rfl | rfl <;> rfl
      intro bent hbent
      refine tr_when (b := false) (et_not (et_B ((ed_call (ea_cons (ed_callR (ea_cons (ed_var rfl) (ea_cons (ed_var rfl) (ea_cons (ed_var rfl) ea_nil))) (lay _ hbent)) (ea_cons (ed_call (ea_cons (ed_var rfl) (ea_cons (ed_var rfl) (ea_cons (ed_var rfl) ea_nil))) ⟨cs, m, bent, rfl, hcs, hbent, rfl⟩) ea_nil)) ⟨_, _, rfl, rfl⟩).eq (d' := .bl true) (by rw [beq_self_eq_true])))) (fun z => by cases z) fun _ => ?_
      refine tr_seq (fun e2 c2 => c2 ≤ c + 700 ∧ ∃ u11 u12 u13 : Slot, e2 = [.dat (.raw (.ref sa)), .dat (.raw (.ref S)), .dat d, .dat (.int z), .dat (dI cs), s5, .dat (.int m), .dat way.d, .dat (.lst ((allC cs (rowsF cs).toNat).map dP)), .dat (dLot ps), .dat bent, u11, u12, u13, s14, s15, s16, s17, s18, s19, s20]) (tr_for (src_list (ed_var rfl)).n ?_) ?_
      · rintro _ rfl
        refine ⟨fun _ e2 c2 => c2 ≤ c + 700 ∧ ∃ u11 u12 u13 : Slot, e2 = [.dat (.raw (.ref sa)), .dat (.raw (.ref S)), .dat d, .dat (.int z), .dat (dI cs), s5, .dat (.int m), .dat way.d, .dat (.lst ((allC cs (rowsF cs).toNat).map dP)), .dat (dLot ps), .dat bent, u11, u12, u13, s14, s15, s16, s17, s18, s19, s20], ⟨by omega, _, _, _, rfl⟩, ?_, fun e c h => h⟩
        rintro k d2 e2 c2 hd2 ⟨hc2, u11, u12, u13, rfl⟩
        rw [List.getElem?_map] at hd2
        obtain ⟨p, hp, rfl⟩ := Option.map_eq_some_iff.mp hd2
        have hp := (hci p (List.mem_of_getElem? hp)).1
        have hbk := bank_b (p := p) m0 m1 hw
        obtain ⟨hs1, hs2⟩ := show2 (a := bankF cs m way p) ⟨hbk.1, by omega⟩
        have hok : D.ok 1 (.lst [.int (bankF cs m way p), .int (bankF cs m way p)]) = true := okL_cons ok_int (okL_cons ok_int okL_nil)
        have hbank : ∀ way' : Way, way'.Ok cs m → fABank ec [dI cs, .int m, way'.d, dP p] (.ret (.int (bankF cs m way' p))) := fun way' hw' => ⟨_, _, _, _, rfl, hcs.pl, pl_int, Way.pl hcs hw', pl_ints (by simp), (rBank_ok hcs m0 m1 hw' hp).symm⟩
        refine ⟨_, tg_name, ?_⟩
        refine tr_set (d := .int (bankF cs m way p)) (ed_call (ea_cons (ed_var rfl) (ea_cons (ed_var rfl) (ea_cons (ed_var rfl) (ea_cons (ed_var rfl) ea_nil)))) ⟨cs, m, way, p, rfl, hcs, m0, m1, hw, hp, rfl⟩) ?_
        refine tr_when (b := false) ((et_test (ed_op (ed_CB (ea_cons (ed_lst (ea_cons (ed_callR (ea_cons (ed_var rfl) (ea_cons (ed_var rfl) (ea_cons (ed_var rfl) (ea_cons (ed_var rfl) ea_nil)))) (hbank way hw)) (ea_cons (ed_callRk (ea_cons (ed_var rfl) (ea_cons (ed_var rfl) (ea_cons (ed_var rfl) (ea_cons (ed_var rfl) ea_nil)))) rfl (hbank way hw)) ea_nil)) (by simp)) ea_nil) (rdl_repr (n := 1) (.inr ⟨_, rfl⟩) hok (by decide) hs1 hs2)) (ed_CB (ea_cons (ed_lst (ea_cons (ed_var rfl) (ea_cons (ed_var rfl) ea_nil)) (by simp)) ea_nil) (rdl_repr (n := 1) (.inr ⟨_, rfl⟩) hok (by decide) hs1 hs2)) rd_neS)).eq (ne_self _)) (fun z => by cases z) fun _ => ?_
        clear hs1 hs2 hok
        cases way with
        | lis ns => exact tr_if (et_test (ed_op (ed_op (ed_var rfl) ed_int (rd_ixT (i := 0) rfl)) ed_str rd_neS)) (fun h => absurd h (by decide +kernel)) fun _ => tr_next ⟨hc2, _, _, _, rfl⟩
        | pad n =>
          refine tr_if (et_test (ed_op (ed_op (ed_var rfl) ed_int (rd_ixT (i := 0) rfl)) ed_str rd_neS)) (fun _ => ?_) (fun h => absurd h (by decide +kernel))
          refine tr_set (d := .int m) (ed_if (et_test (ed_op (ed_op (ed_var rfl) ed_int (rd_ixT (i := 0) rfl)) ed_str rd_eqS)) (fun _ => ed_var rfl) (fun h => absurd h (by decide +kernel))) ?_
          refine tr_if (b := false) ((et_and (b := false) (et_test (ed_op (ed_op (ed_CB (ea_cons (ed_op (ed_var rfl) ed_int (rd_ixT (i := 1) (d := .int n) rfl)) ea_nil) rdl_int) (ed_var rfl) rd_add) ed_int rd_le)) fun h => (et_test (ed_op (ed_callR (ea_cons (ed_var rfl) (ea_cons (ed_var rfl) (ea_cons (ed_tup (ea_cons (ed_op (ed_var rfl) ed_int (rd_ixT (i := 0) (d := .str "padded") rfl)) (ea_cons (ed_op (ed_op (ed_var rfl) ed_int (rd_ixT (i := 1) (d := .int n) rfl)) (ed_var rfl) rd_add) ea_nil)) (by simp)) (ea_cons (ed_var rfl) ea_nil)))) (hbank (.pad (n + m)) (pad_ok hw m0 (of_decide_eq_true h)))) (ed_var rfl) rd_neI)).eq (b' := false) (by rw [pad_shift]; exact ne_selfI _)).eq (Bool.and_false _)) (fun z => by cases z) fun _ => tr_next ⟨hc2, _, _, _, rfl⟩
        | tur n =>
          refine tr_if (et_test (ed_op (ed_op (ed_var rfl) ed_int (rd_ixT (i := 0) rfl)) ed_str rd_neS)) (fun _ => ?_) (fun h => absurd h (by decide +kernel))
          obtain ⟨xs, exs⟩ := cs_last hcs
          refine tr_set (d := .int (colsF cs)) (ed_if (et_test (ed_op (ed_op (ed_var rfl) ed_int (rd_ixT (i := 0) rfl)) ed_str rd_eqS)) (fun h => absurd h (by decide +kernel)) (fun _ => ed_op ((ed_var rfl).eq exs) ((ed_un ed_int rd1_neg).eq (d' := .int (-1)) rfl) rd_ixLast)) ?_
          refine tr_if (b := false) ((et_and (b := false) (et_test (ed_op (ed_op (ed_CB (ea_cons (ed_op (ed_var rfl) ed_int (rd_ixT (i := 1) (d := .int n) rfl)) ea_nil) rdl_int) (ed_var rfl) rd_add) ed_int rd_le)) fun h => (et_test (ed_op (ed_callR (ea_cons (ed_var rfl) (ea_cons (ed_var rfl) (ea_cons (ed_tup (ea_cons (ed_op (ed_var rfl) ed_int (rd_ixT (i := 0) (d := .str "turned") rfl)) (ea_cons (ed_op (ed_op (ed_var rfl) ed_int (rd_ixT (i := 1) (d := .int n) rfl)) (ed_var rfl) rd_add) ea_nil)) (by simp)) (ea_cons (ed_var rfl) ea_nil)))) (hbank (.tur (n + colsF cs)) (tur_ok hw hcs (of_decide_eq_true h)))) (ed_var rfl) rd_neI)).eq (b' := false) (by rw [tur_shift]; exact ne_selfI _)).eq (Bool.and_false _)) (fun z => by cases z) fun _ => tr_next ⟨hc2, _, _, _, rfl⟩
      · rintro e2 c2 ⟨hc2, u11, u12, u13, rfl⟩
        have hcst : fACost ec [dI cs, .int m, way.d, dLot ps] (.ret (.int (costF (ps.map (bankF cs m way))))) := ⟨_, _, _, _, rfl, hcs.pl, pl_int, hpw, pl_cells (by omega), (rCost_ok hcs m0 m1 hw hpi (asc_of hpa)).symm⟩
        refine tr_set (d := .int (costF (ps.map (bankF cs m way)))) (ed_call (ea_cons (ed_var rfl) (ea_cons (ed_var rfl) (ea_cons (ed_var rfl) (ea_cons (ed_var rfl) ea_nil)))) ⟨cs, m, way, ps, rfl, hcs, m0, m1, hw, hpi, by omega, rfl⟩) ?_
        have hck := cost_b (bs := ps.map (bankF cs m way)) (by rw [List.length_map]; omega)
        generalize costF (ps.map (bankF cs m way)) = ck at hck hcst ⊢
        obtain ⟨hs1, hs2⟩ := show2 (a := ck) ⟨hck.1, by omega⟩
        have hok : D.ok 1 (.lst [.int ck, .int ck]) = true := okL_cons ok_int (okL_cons ok_int okL_nil)
        refine tr_when (b := false) ((et_test (ed_op (ed_CB (ea_cons (ed_lst (ea_cons (ed_callR (ea_cons (ed_var rfl) (ea_cons (ed_var rfl) (ea_cons (ed_var rfl) (ea_cons (ed_var rfl) ea_nil)))) hcst) (ea_cons (ed_callRk (ea_cons (ed_var rfl) (ea_cons (ed_var rfl) (ea_cons (ed_var rfl) (ea_cons (ed_var rfl) ea_nil)))) rfl hcst) ea_nil)) (by simp)) ea_nil) (rdl_repr (n := 1) (.inr ⟨_, rfl⟩) hok (by decide) hs1 hs2)) (ed_CB (ea_cons (ed_lst (ea_cons (ed_var rfl) (ea_cons (ed_var rfl) ea_nil)) (by simp)) ea_nil) (rdl_repr (n := 1) (.inr ⟨_, rfl⟩) hok (by decide) hs1 hs2)) rd_neS)).eq (ne_self _)) (fun z => by cases z) fun _ => ?_
        clear hs1 hs2 hok
        refine tr_whenN (n := 1) (P := fun b => b = false) (etn_not (P := fun b => b = true) (en_true (EN.lift (en_callD (k := 0 + (0 + (1 + 0))) (f := fLines) (P := fun d => d = .bl true) (ean_cons (ed_var rfl).n (ean_cons (ed_var rfl).n (ean_cons (en_take (n := 32) rfl ed_int (by decide) (by decide) (by show _ + 1 ≤ 1099511627776; omega)) ean_nil))) (by
          rintro l ⟨d1, l1, rfl, rfl, d2, l2, rfl, rfl, d3, l3, rfl, ⟨n, rfl, n0, n1⟩, rfl⟩
          exact ⟨_, ⟨cs, m, n, rfl, hcs, m0, m1, n0, by omega, rfl⟩, rfl⟩)) (by omega))) fun b e => by rw [e]; rfl) (fun z => by cases z) fun _ => ?_
        have ho : ∀ (d : D), d ∈ odds → pl d = true ∧ okC d = false := odds_ok
        refine tr_setN (n := 1) (P := fun d => d ∈ odds) (en_pickL (es := odds) rfl (ed_lst (ea_cons ed_non (ea_cons (ed_tup ea_nil (by simp)) (ea_cons (ed_lst (ea_cons ed_int ea_nil) (by simp)) (ea_cons (ed_tup (ea_cons ed_int ea_nil) (by simp)) (ea_cons (ed_tup (ea_cons ed_int ea_nil) (by simp)) (ea_cons (ed_tup (ea_cons ed_int (ea_cons ed_int (ea_cons ed_int ea_nil))) (by simp)) (ea_cons (ed_tup (ea_cons ed_bl ea_nil) (by simp)) (ea_cons ed_int (ea_cons (ed_tup (ea_cons ed_str ea_nil) (by simp)) (ea_cons (ed_tup (ea_cons ed_int (ea_cons ed_int ea_nil)) (by simp)) ea_nil)))))))))) (by decide)) (by decide) (by decide) (by show _ + 1 ≤ 1099511627776; omega)) fun odd hodd => ?_
        obtain ⟨ho1, ho2⟩ := odds_ok odd hodd
        clear hodd ho
        refine tr_setMN (n := 0) (P := fun es => es = [.bl true]) (by show 15 < 21; decide) (mn_lstD (ea_cons (ed_isCau C (c := ec.BadCounts) (by simp) (fun E => ea_cons (ed_var rfl) (ea_cons ed_non (ea_cons (ed_var rfl) ea_nil))) (xLayC ho1 ho2 pl_non hpw)) ea_nil) (by decide)) ?_
        rintro _ rfl
        refine tr_app (d := .bl true) rfl (by decide) (ed_isCau C (c := ec.BadCounts) (by simp) (fun E => ea_cons (ed_var rfl) (ea_cons ed_int (ea_cons ed_non (ea_cons ed_non ea_nil)))) (xCostC ho1 ho2 pl_int pl_non pl_non)) ?_
        refine tr_setN (n := 1) (P := fun d => d ∈ wrongB) (en_pickL (es := wrongB) rfl (ed_lst (ea_cons ed_int (ea_cons ed_int (ea_cons ed_non (ea_cons ed_bl (ea_cons ed_str (ea_cons (ed_tup (ea_cons ed_int ea_nil) (by simp)) (ea_cons (ed_un ed_int rd1_neg) ea_nil))))))) (by decide)) (by decide) (by decide) (by show _ + 1 ≤ 1099511627776; omega)) fun wrong hwrong => ?_
        obtain ⟨hw1, hw2⟩ := wrongB_ok wrong hwrong
        clear hwrong
        refine tr_app (d := .bl true) rfl (by decide) (ed_isCau C (c := ec.BadBanks) (by simp) (fun E => ea_cons (ed_var rfl) (ea_cons (ed_var rfl) (ea_cons (ed_var rfl) ea_nil))) (xLayB hcs hw1 hw2 hpw)) ?_
        refine tr_app (d := .bl true) rfl (by decide) (ed_isCau C (c := ec.BadBanks) (by simp) (fun E => ea_cons (ed_var rfl) (ea_cons (ed_var rfl) (ea_cons ed_non (ea_cons ed_non ea_nil)))) (xBankB hcs hw1 hw2 pl_non pl_non)) ?_
        refine tr_seq (fun e3 c3 => c3 ≤ c + 800 ∧ ∃ n : Nat, n ≤ 10 ∧ e3 = [.dat (.raw (.ref sa)), .dat (.raw (.ref S)), .dat d, .dat (.int z), .dat (dI cs), s5, .dat (.int m), .dat way.d, .dat (.lst ((allC cs (rowsF cs).toNat).map dP)), .dat (dLot ps), .dat bent, u11, .dat (.int ck), u13, .dat odd, .mu ((List.replicate n true).map .bl), .dat wrong, s17, s18, s19, s20]) (tr_if (et_not (et_B (ed_call (ea_cons (ed_var rfl) (ea_cons (ed_var rfl) (ea_cons (ed_var rfl) ea_nil))) ⟨cs, m, bent, rfl, hcs, hbent, rfl⟩))) (fun hbl => ?_) (fun _ => ?_)) ?_
        · have hbl : isLay cs m bent = false := by
            cases q : isLay cs m bent with
            | true => rw [q] at hbl; cases hbl
            | false => rfl
          refine tr_app (d := .bl true) rfl (by decide) (ed_isCau C (c := ec.BadLaying) (by simp) (fun E => ea_cons (ed_var rfl) (ea_cons (ed_var rfl) (ea_cons (ed_var rfl) (ea_cons ed_non ea_nil)))) (xBankL hcs m0 m1 hbent hbl pl_non)) ?_
          exact tr_app1 (d := .bl true) rfl (by decide) (ed_isCau C (c := ec.BadLaying) (by simp) (fun E => ea_cons (ed_var rfl) (ea_cons (ed_var rfl) (ea_cons (ed_var rfl) (ea_cons ed_non ea_nil)))) (xCostL hcs m0 m1 hbent hbl pl_non)) ⟨by omega, 6, by decide, rfl⟩
        · exact tr_next ⟨by omega, 4, by decide, rfl⟩
        rintro e3 c3 ⟨hc3, n, hn, rfl⟩
        refine tr_tg (d := dI [rowsF cs, colsF cs]) (ed_call (ea_cons (ed_var rfl) ea_nil) ⟨cs, rfl, hcs, rfl⟩) (tg_tup2 (d1 := .int (rowsF cs)) (d2 := .int (colsF cs))) ?_
        refine tr_setN (n := 1) (P := fun d => d ∈ badCells cs) (en_pickL (es := badCells cs) rfl (ed_lst (ea_cons ed_non (ea_cons (ed_tup (ea_cons (ed_var rfl) (ea_cons ed_int ea_nil)) (by simp)) (ea_cons (ed_tup (ea_cons ed_int (ea_cons (ed_var rfl) ea_nil)) (by simp)) (ea_cons (ed_tup (ea_cons (ed_un ed_int rd1_neg) (ea_cons ed_int ea_nil)) (by simp)) (ea_cons (ed_lst (ea_cons ed_int (ea_cons ed_int ea_nil)) (by simp)) (ea_cons (ed_tup (ea_cons ed_int ea_nil) (by simp)) (ea_cons (ed_tup (ea_cons ed_bl (ea_cons ed_int ea_nil)) (by simp)) (ea_cons ed_int ea_nil)))))))) (by simp [badCells])) (by simp [badCells]) (by simp [badCells]) (by show _ + 1 ≤ 1099511627776; omega)) fun spot hspot => ?_
        obtain ⟨hq1, hq2⟩ := badCells_ok spot hspot
        clear hspot
        refine tr_app (d := .bl true) rfl (by rw [List.length_map, List.length_replicate]; omega) (ed_isCau C (c := ec.BadCell) (by simp) (fun E => ea_cons (ed_var rfl) (ea_cons (ed_var rfl) (ea_cons (ed_var rfl) (ea_cons (ed_var rfl) ea_nil)))) (xBankQ hcs m0 m1 hw hq1 hq2)) ?_
        refine tr_setN (n := 1) (P := fun d => d ∈ wrongs cs ps) (EN.lift (en_callX (k := 1) (f := fWrong) (ean_cons (ed_var rfl).n (ean_cons (ed_var rfl).n (ean_cons (ed_var rfl).n ean_nil))) (by
          rintro l ⟨d1, l1, rfl, rfl, d2, l2, rfl, rfl, d3, l3, rfl, rfl, rfl⟩
          exact ⟨cs, ps, rfl, hcs, by omega, fun y hy => hy⟩) (by show _ + 1 ≤ 1099511627776; omega)) (by omega)) fun bad hbad => ?_
        obtain ⟨hz1, hz2⟩ := wrongs_ok hcs (by omega) hpa bad hbad
        clear hbad
        refine tr_app (d := .bl true) rfl (by rw [List.length_append, List.length_map, List.length_replicate]; show n + 1 < 100000; omega) (ed_isCau C (c := ec.BadLot) (by simp) (fun E => ea_cons (ed_var rfl) (ea_cons (ed_var rfl) (ea_cons (ed_var rfl) (ea_cons (ed_var rfl) ea_nil)))) (xCostQ hcs m0 m1 hw hz1 hz2)) ?_
        refine tr_frz (i := 15) rfl ?_
        have hall : ((List.replicate n true ++ [true, true]).filter fun b => !b) = [] := by
          rw [List.filter_eq_nil_iff]
          intro b hb
          rcases List.mem_append.mp hb with hb | hb
          · rw [(List.mem_replicate.mp hb).2]; simp
          · have : b = true := by simpa using hb
            rw [this]; simp
        have hev : ((List.replicate n true).map D.bl ++ [D.bl true]) ++ [D.bl true] = (List.replicate n true ++ [true, true]).map D.bl := by
          rw [List.map_append, List.append_assoc]; rfl
        refine tr_if (b := false) ((et_test (ed_op ((ed_lc1 (List.replicate n true ++ [true, true]) .bl (fun b => !b) (fun _ => .int 1) (src_list ((ed_var rfl).eq (congrArg D.lst hev))) (by rw [List.length_append, List.length_replicate]; show n + 2 ≤ 100000; omega) (fun b _ => et_not (et_B (ed_var rfl))) (fun b _ _ => ed_int)).eq (d' := .lst []) (by rw [hall]; rfl)) (ed_lst ea_nil (by simp)) (rd_neD (n := 1) (m := 1) (okL_nil (n := 0)) (okL_nil (n := 0))))).eq rfl) (fun z => by cases z) fun _ => tr_next ⟨by omega, by omega, _, _, _, _, _, _, _, _, _, _, _, _, _, _, _, _, _, _, _, rfl⟩
    · rintro e c ⟨s2, s3, s4, s5, s6, s7, s8, s9, s10, s11, s12, s13, s14, s15, s16, s17, s18, s19, s20, rfl⟩
      exact tr_ret (ed_op (ed_callR (ea_cons (ed_tup (ea_cons ed_int ea_nil) (by simp)) (ea_cons ed_int (ea_cons (ed_tup (ea_cons ed_str (ea_cons ed_int ea_nil)) (by simp)) (ea_cons (ed_tup ea_nil (by simp)) ea_nil)))) okLast) ed_int rd_eqI) rfl


end
end K62
set_option Elab.async false
set_option linter.all false
set_option maxRecDepth 100000
set_option maxHeartbeats 0
/-! The end: what the top leaves, the chain of defs, the theorem. -/
namespace K62
open PySem PySem.Spec PyProof.Rows L2 LamX C8 Fx
def dd8 : He.DefD := ⟨("is_number", none), "is_number", "is_number", fnArgs (top 8), fnBody (top 8), fnScope (top 8), [], []⟩
def dd13 : He.DefD := ⟨("is_between", none), "is_between", "is_between", fnArgs (top 13), fnBody (top 13), fnScope (top 13), [], []⟩
def dd14 : He.DefD := ⟨("need_counts", none), "need_counts", "need_counts", fnArgs (top 14), fnBody (top 14), fnScope (top 14), [], []⟩
def dd15 : He.DefD := ⟨("need_banks", none), "need_banks", "need_banks", fnArgs (top 15), fnBody (top 15), fnScope (top 15), [], []⟩
def dd16 : He.DefD := ⟨("shape_of", none), "shape_of", "shape_of", fnArgs (top 16), fnBody (top 16), fnScope (top 16), [], []⟩
def dd17 : He.DefD := ⟨("is_cell_of", none), "is_cell_of", "is_cell_of", fnArgs (top 17), fnBody (top 17), fnScope (top 17), [], []⟩
def dd18 : He.DefD := ⟨("is_laying_of", none), "is_laying_of", "is_laying_of", fnArgs (top 18), fnBody (top 18), fnScope (top 18), [], []⟩
def dd19 : He.DefD := ⟨("need_laying", none), "need_laying", "need_laying", fnArgs (top 19), fnBody (top 19), fnScope (top 19), [], []⟩
def dd20 : He.DefD := ⟨("bank_at", none), "bank_at", "bank_at", fnArgs (top 20), fnBody (top 20), fnScope (top 20), [], []⟩
def dd21 : He.DefD := ⟨("is_lot_of", none), "is_lot_of", "is_lot_of", fnArgs (top 21), fnBody (top 21), fnScope (top 21), [], []⟩
def dd22 : He.DefD := ⟨("need_lot", none), "need_lot", "need_lot", fnArgs (top 22), fnBody (top 22), fnScope (top 22), [], []⟩
def dd23 : He.DefD := ⟨("cost_of", none), "cost_of", "cost_of", fnArgs (top 23), fnBody (top 23), fnScope (top 23), [], []⟩
def dd25 : He.DefD := ⟨("is_laying", none), "is_laying", "is_laying", fnArgs (top 25), fnBody (top 25), fnScope (top 25), [], []⟩
def dd26 : He.DefD := ⟨("bank_of", none), "bank_of", "bank_of", fnArgs (top 26), fnBody (top 26), fnScope (top 26), [], []⟩
def dd27 : He.DefD := ⟨("cost", none), "cost", "cost", fnArgs (top 27), fnBody (top 27), fnScope (top 27), [], []⟩
def dd29 : He.DefD := ⟨("_law_begun", none), "_law_begun", "_law_begun", fnArgs (top 29), fnBody (top 29), fnScope (top 29), [], []⟩
def dd30 : He.DefD := ⟨("_law_pick", none), "_law_pick", "_law_pick", fnArgs (top 30), fnBody (top 30), fnScope (top 30), [], []⟩
def dd31 : He.DefD := ⟨("_law_caught", none), "_law_caught", "_law_caught", fnArgs (top 31), fnBody (top 31), fnScope (top 31), [], []⟩
def dd32 : He.DefD := ⟨("_law_is_whole", none), "_law_is_whole", "_law_is_whole", fnArgs (top 32), fnBody (top 32), fnScope (top 32), [], []⟩
def dd33 : He.DefD := ⟨("_law_box", none), "_law_box", "_law_box", fnArgs (top 33), fnBody (top 33), fnScope (top 33), [], []⟩
def dd34 : He.DefD := ⟨("_law_take", none), "_law_take", "_law_take", fnArgs (top 34), fnBody (top 34), fnScope (top 34), [], []⟩
def dd35 : He.DefD := ⟨("_law_mixed", none), "_law_mixed", "_law_mixed", fnArgs (top 35), fnBody (top 35), fnScope (top 35), [], []⟩
def dd36 : He.DefD := ⟨("_law_few_of", none), "_law_few_of", "_law_few_of", fnArgs (top 36), fnBody (top 36), fnScope (top 36), [], []⟩
def dd37 : He.DefD := ⟨("_law_says", none), "_law_says", "_law_says", fnArgs (top 37), fnBody (top 37), fnScope (top 37), [], []⟩
def dd38 : He.DefD := ⟨("_law_bent", none), "_law_bent", "_law_bent", fnArgs (top 38), fnBody (top 38), fnScope (top 38), [], []⟩
def dd39 : He.DefD := ⟨("_law_bank", none), "_law_bank", "_law_bank", fnArgs (top 39), fnBody (top 39), fnScope (top 39), [], []⟩
def dd40 : He.DefD := ⟨("_law_price", none), "_law_price", "_law_price", fnArgs (top 40), fnBody (top 40), fnScope (top 40), [], []⟩
def dd41 : He.DefD := ⟨("_law_way", none), "_law_way", "_law_way", fnArgs (top 41), fnBody (top 41), fnScope (top 41), [], []⟩
def dd42 : He.DefD := ⟨("_law_is_way", none), "_law_is_way", "_law_is_way", fnArgs (top 42), fnBody (top 42), fnScope (top 42), [], []⟩
def dd43 : He.DefD := ⟨("_law_cells", none), "_law_cells", "_law_cells", fnArgs (top 43), fnBody (top 43), fnScope (top 43), [], []⟩
def dd44 : He.DefD := ⟨("_law_shared_part_of", none), "_law_shared_part_of", "_law_shared_part_of", fnArgs (top 44), fnBody (top 44), fnScope (top 44), [], []⟩
def dd45 : He.DefD := ⟨("_law_lines_right", none), "_law_lines_right", "_law_lines_right", fnArgs (top 45), fnBody (top 45), fnScope (top 45), [], []⟩
def dd46 : He.DefD := ⟨("_law_wrong_lot", none), "_law_wrong_lot", "_law_wrong_lot", fnArgs (top 46), fnBody (top 46), fnScope (top 46), [], []⟩
def dd47 : He.DefD := ⟨("law", none), "law", "law", fnArgs (top 47), fnBody (top 47), fnScope (top 47), [], []⟩
def fnl : List He.DefD := [dd8, dd13, dd14, dd15, dd16, dd17, dd18, dd19, dd20, dd21, dd22, dd23, dd25, dd26, dd27, dd29, dd30, dd31, dd32, dd33, dd34, dd35, dd36, dd37, dd38, dd39, dd40, dd41, dd42, dd43, dd44, dd45, dd46, dd47]
def fal : List He.Fa := [.glo "is_number", .glo "is_between", .glo "need_counts", .glo "need_banks", .glo "shape_of", .glo "is_cell_of", .glo "is_laying_of", .glo "need_laying", .glo "bank_at", .glo "is_lot_of", .glo "need_lot", .glo "cost_of", .glo "is_laying", .glo "bank_of", .glo "cost", .glo "_law_begun", .glo "_law_pick", .glo "_law_caught", .glo "_law_is_whole", .glo "_law_box", .glo "_law_take", .glo "_law_mixed", .glo "_law_few_of", .glo "_law_says", .glo "_law_bent", .glo "_law_bank", .glo "_law_price", .glo "_law_way", .glo "_law_is_way", .glo "_law_cells", .glo "_law_shared_part_of", .glo "_law_lines_right", .glo "_law_wrong_lot", .glo "law", .free "isinstance", .free "int", .free "bool", .free "str", .free "dict", .free "list", .free "tuple", .free "all", .free "zip", .free "range", .free "len", .free "min", .free "max", .free "abs", .free "repr", .int "MOST_BANKS" 32, .int "MOST_COUNT" 16, .int "MOST_STEP" 31, .glo "LaneError", .glo "BadCell", .glo "BadBanks", .glo "BadCounts", .glo "BadLaying", .glo "BadLot", .exc "LaneError", .exc "BadCell", .exc "BadBanks", .exc "BadCounts", .exc "BadLaying", .exc "BadLot"]
def tfl : List He.Defn := [("law", none)]
def exl (K : PySem.W.Frag) : Bool := decide ((tfl.map fun p => (He.cT K p).2).Nodup) && Fx.isB K "LaneError" "BadCell" && Fx.isB K "LaneError" "BadBanks" && Fx.isB K "LaneError" "BadCounts" && Fx.isB K "LaneError" "BadLaying" && Fx.isB K "LaneError" "BadLot"
def tabl (K : PySem.W.Frag) : List (Addr × Str) := [((He.cT K ("law", none)).2, "law.<locals>.<lambda>")]
abbrev Rw : PySem.W.OpenRow := PySem.W.OpenLaw.row PySem.Challenge.rw_lanesmeet_k62_layings_and_banks
abbrev hk : PySem.W.Hook := He.hookX 4 fal fnl [] tfl exl
def ob (s : PySem.W.SharedT) : He.AlX := He.obsX 4 fal fnl [] tfl exl (HandSHeadRun.getT s)
theorem ob_eq (s : PySem.W.SharedT) : ob s = hk.obs s.abs := He.obsX_eq (HandSHeadRun.getT_eq s)
def loose0 : List PySem.Str := ["LaneError", "BadCell", "BadBanks", "BadCounts", "BadLaying", "BadLot", "is_number", "MOST_BANKS", "MOST_COUNT", "MOST_STEP", "is_between", "need_counts", "need_banks", "shape_of", "is_cell_of", "is_laying_of", "need_laying", "bank_at", "is_lot_of", "need_lot", "cost_of", "is_laying", "bank_of", "cost", "_law_begun", "_law_pick", "_law_caught", "_law_is_whole", "_law_box", "_law_take"]
def loose1 : List PySem.Str := ["_law_mixed", "_law_few_of", "_law_says", "_law_bent", "_law_bank", "_law_price", "_law_way", "_law_is_way", "_law_cells", "_law_shared_part_of", "_law_lines_right", "_law_wrong_lot"]
def loose : List PySem.Str := loose0 ++ loose1
theorem run (w : World) : HandSHeadRun.RunEq Rw (PySem.W.view Rw.prog [47]) hk ob 4000 loose w := by
  intro os
  kernel_rfl

theorem law_at {w : World} {K : PySem.W.Frag} {h : Heap} {mg : Str → Option Value} (X : K.In h) (G : h.Ns mainGlobals mg) (c : He.SaysX fal fnl [] tfl exl w h K) :
    LawG PySem.Challenge.rw_lanesmeet_k62_layings_and_banks w K 31 63 "law" "_law_script" mg h := by
  have c1 : He.SaysD fal fnl K := congrArg (fun z : He.AlT => z.1) c.t
  obtain ⟨fd8, F8⟩ := c1.def_ 0 (d := dd8) rfl
  have g8 : mg ("is_number" : Str) = some (.ref (He.fAd K ("is_number", none))) := He.glo_ok X G (c1.fact 0 (f := .glo "is_number") rfl)
  obtain ⟨fd13, F13⟩ := c1.def_ 1 (d := dd13) rfl
  have g13 : mg ("is_between" : Str) = some (.ref (He.fAd K ("is_between", none))) := He.glo_ok X G (c1.fact 1 (f := .glo "is_between") rfl)
  obtain ⟨fd14, F14⟩ := c1.def_ 2 (d := dd14) rfl
  have g14 : mg ("need_counts" : Str) = some (.ref (He.fAd K ("need_counts", none))) := He.glo_ok X G (c1.fact 2 (f := .glo "need_counts") rfl)
  obtain ⟨fd15, F15⟩ := c1.def_ 3 (d := dd15) rfl
  have g15 : mg ("need_banks" : Str) = some (.ref (He.fAd K ("need_banks", none))) := He.glo_ok X G (c1.fact 3 (f := .glo "need_banks") rfl)
  obtain ⟨fd16, F16⟩ := c1.def_ 4 (d := dd16) rfl
  have g16 : mg ("shape_of" : Str) = some (.ref (He.fAd K ("shape_of", none))) := He.glo_ok X G (c1.fact 4 (f := .glo "shape_of") rfl)
  obtain ⟨fd17, F17⟩ := c1.def_ 5 (d := dd17) rfl
  have g17 : mg ("is_cell_of" : Str) = some (.ref (He.fAd K ("is_cell_of", none))) := He.glo_ok X G (c1.fact 5 (f := .glo "is_cell_of") rfl)
  obtain ⟨fd18, F18⟩ := c1.def_ 6 (d := dd18) rfl
  have g18 : mg ("is_laying_of" : Str) = some (.ref (He.fAd K ("is_laying_of", none))) := He.glo_ok X G (c1.fact 6 (f := .glo "is_laying_of") rfl)
  obtain ⟨fd19, F19⟩ := c1.def_ 7 (d := dd19) rfl
  have g19 : mg ("need_laying" : Str) = some (.ref (He.fAd K ("need_laying", none))) := He.glo_ok X G (c1.fact 7 (f := .glo "need_laying") rfl)
  obtain ⟨fd20, F20⟩ := c1.def_ 8 (d := dd20) rfl
  have g20 : mg ("bank_at" : Str) = some (.ref (He.fAd K ("bank_at", none))) := He.glo_ok X G (c1.fact 8 (f := .glo "bank_at") rfl)
  obtain ⟨fd21, F21⟩ := c1.def_ 9 (d := dd21) rfl
  have g21 : mg ("is_lot_of" : Str) = some (.ref (He.fAd K ("is_lot_of", none))) := He.glo_ok X G (c1.fact 9 (f := .glo "is_lot_of") rfl)
  obtain ⟨fd22, F22⟩ := c1.def_ 10 (d := dd22) rfl
  have g22 : mg ("need_lot" : Str) = some (.ref (He.fAd K ("need_lot", none))) := He.glo_ok X G (c1.fact 10 (f := .glo "need_lot") rfl)
  obtain ⟨fd23, F23⟩ := c1.def_ 11 (d := dd23) rfl
  have g23 : mg ("cost_of" : Str) = some (.ref (He.fAd K ("cost_of", none))) := He.glo_ok X G (c1.fact 11 (f := .glo "cost_of") rfl)
  obtain ⟨fd25, F25⟩ := c1.def_ 12 (d := dd25) rfl
  have g25 : mg ("is_laying" : Str) = some (.ref (He.fAd K ("is_laying", none))) := He.glo_ok X G (c1.fact 12 (f := .glo "is_laying") rfl)
  obtain ⟨fd26, F26⟩ := c1.def_ 13 (d := dd26) rfl
  have g26 : mg ("bank_of" : Str) = some (.ref (He.fAd K ("bank_of", none))) := He.glo_ok X G (c1.fact 13 (f := .glo "bank_of") rfl)
  obtain ⟨fd27, F27⟩ := c1.def_ 14 (d := dd27) rfl
  have g27 : mg ("cost" : Str) = some (.ref (He.fAd K ("cost", none))) := He.glo_ok X G (c1.fact 14 (f := .glo "cost") rfl)
  obtain ⟨fd29, F29⟩ := c1.def_ 15 (d := dd29) rfl
  have g29 : mg ("_law_begun" : Str) = some (.ref (He.fAd K ("_law_begun", none))) := He.glo_ok X G (c1.fact 15 (f := .glo "_law_begun") rfl)
  obtain ⟨fd30, F30⟩ := c1.def_ 16 (d := dd30) rfl
  have g30 : mg ("_law_pick" : Str) = some (.ref (He.fAd K ("_law_pick", none))) := He.glo_ok X G (c1.fact 16 (f := .glo "_law_pick") rfl)
  obtain ⟨fd31, F31⟩ := c1.def_ 17 (d := dd31) rfl
  have g31 : mg ("_law_caught" : Str) = some (.ref (He.fAd K ("_law_caught", none))) := He.glo_ok X G (c1.fact 17 (f := .glo "_law_caught") rfl)
  obtain ⟨fd32, F32⟩ := c1.def_ 18 (d := dd32) rfl
  have g32 : mg ("_law_is_whole" : Str) = some (.ref (He.fAd K ("_law_is_whole", none))) := He.glo_ok X G (c1.fact 18 (f := .glo "_law_is_whole") rfl)
  obtain ⟨fd33, F33⟩ := c1.def_ 19 (d := dd33) rfl
  have g33 : mg ("_law_box" : Str) = some (.ref (He.fAd K ("_law_box", none))) := He.glo_ok X G (c1.fact 19 (f := .glo "_law_box") rfl)
  obtain ⟨fd34, F34⟩ := c1.def_ 20 (d := dd34) rfl
  have g34 : mg ("_law_take" : Str) = some (.ref (He.fAd K ("_law_take", none))) := He.glo_ok X G (c1.fact 20 (f := .glo "_law_take") rfl)
  obtain ⟨fd35, F35⟩ := c1.def_ 21 (d := dd35) rfl
  have g35 : mg ("_law_mixed" : Str) = some (.ref (He.fAd K ("_law_mixed", none))) := He.glo_ok X G (c1.fact 21 (f := .glo "_law_mixed") rfl)
  obtain ⟨fd36, F36⟩ := c1.def_ 22 (d := dd36) rfl
  have g36 : mg ("_law_few_of" : Str) = some (.ref (He.fAd K ("_law_few_of", none))) := He.glo_ok X G (c1.fact 22 (f := .glo "_law_few_of") rfl)
  obtain ⟨fd37, F37⟩ := c1.def_ 23 (d := dd37) rfl
  have g37 : mg ("_law_says" : Str) = some (.ref (He.fAd K ("_law_says", none))) := He.glo_ok X G (c1.fact 23 (f := .glo "_law_says") rfl)
  obtain ⟨fd38, F38⟩ := c1.def_ 24 (d := dd38) rfl
  have g38 : mg ("_law_bent" : Str) = some (.ref (He.fAd K ("_law_bent", none))) := He.glo_ok X G (c1.fact 24 (f := .glo "_law_bent") rfl)
  obtain ⟨fd39, F39⟩ := c1.def_ 25 (d := dd39) rfl
  have g39 : mg ("_law_bank" : Str) = some (.ref (He.fAd K ("_law_bank", none))) := He.glo_ok X G (c1.fact 25 (f := .glo "_law_bank") rfl)
  obtain ⟨fd40, F40⟩ := c1.def_ 26 (d := dd40) rfl
  have g40 : mg ("_law_price" : Str) = some (.ref (He.fAd K ("_law_price", none))) := He.glo_ok X G (c1.fact 26 (f := .glo "_law_price") rfl)
  obtain ⟨fd41, F41⟩ := c1.def_ 27 (d := dd41) rfl
  have g41 : mg ("_law_way" : Str) = some (.ref (He.fAd K ("_law_way", none))) := He.glo_ok X G (c1.fact 27 (f := .glo "_law_way") rfl)
  obtain ⟨fd42, F42⟩ := c1.def_ 28 (d := dd42) rfl
  have g42 : mg ("_law_is_way" : Str) = some (.ref (He.fAd K ("_law_is_way", none))) := He.glo_ok X G (c1.fact 28 (f := .glo "_law_is_way") rfl)
  obtain ⟨fd43, F43⟩ := c1.def_ 29 (d := dd43) rfl
  have g43 : mg ("_law_cells" : Str) = some (.ref (He.fAd K ("_law_cells", none))) := He.glo_ok X G (c1.fact 29 (f := .glo "_law_cells") rfl)
  obtain ⟨fd44, F44⟩ := c1.def_ 30 (d := dd44) rfl
  have g44 : mg ("_law_shared_part_of" : Str) = some (.ref (He.fAd K ("_law_shared_part_of", none))) := He.glo_ok X G (c1.fact 30 (f := .glo "_law_shared_part_of") rfl)
  obtain ⟨fd45, F45⟩ := c1.def_ 31 (d := dd45) rfl
  have g45 : mg ("_law_lines_right" : Str) = some (.ref (He.fAd K ("_law_lines_right", none))) := He.glo_ok X G (c1.fact 31 (f := .glo "_law_lines_right") rfl)
  obtain ⟨fd46, F46⟩ := c1.def_ 32 (d := dd46) rfl
  have g46 : mg ("_law_wrong_lot" : Str) = some (.ref (He.fAd K ("_law_wrong_lot", none))) := He.glo_ok X G (c1.fact 32 (f := .glo "_law_wrong_lot") rfl)
  obtain ⟨fd47, F47⟩ := c1.def_ 33 (d := dd47) rfl
  have g47 : mg ("law" : Str) = some (.ref (He.fAd K ("law", none))) := He.glo_ok X G (c1.fact 33 (f := .glo "law") rfl)
  have B : Bn mg := {
    isinstance := He.free_ok X G (c1.fact 34 (f := .free "isinstance") rfl)
    int := He.free_ok X G (c1.fact 35 (f := .free "int") rfl)
    bool := He.free_ok X G (c1.fact 36 (f := .free "bool") rfl)
    str := He.free_ok X G (c1.fact 37 (f := .free "str") rfl)
    dict := He.free_ok X G (c1.fact 38 (f := .free "dict") rfl)
    list := He.free_ok X G (c1.fact 39 (f := .free "list") rfl)
    tuple := He.free_ok X G (c1.fact 40 (f := .free "tuple") rfl)
    all := He.free_ok X G (c1.fact 41 (f := .free "all") rfl)
    zip := He.free_ok X G (c1.fact 42 (f := .free "zip") rfl)
    range := He.free_ok X G (c1.fact 43 (f := .free "range") rfl)
    len := He.free_ok X G (c1.fact 44 (f := .free "len") rfl)
    min := He.free_ok X G (c1.fact 45 (f := .free "min") rfl)
    max := He.free_ok X G (c1.fact 46 (f := .free "max") rfl)
    abs := He.free_ok X G (c1.fact 47 (f := .free "abs") rfl)
    repr := He.free_ok X G (c1.fact 48 (f := .free "repr") rfl)
    cMOST_BANKS := He.int_ok X G (c1.fact 49 (f := .int "MOST_BANKS" 32) rfl)
    cMOST_COUNT := He.int_ok X G (c1.fact 50 (f := .int "MOST_COUNT" 16) rfl)
    cMOST_STEP := He.int_ok X G (c1.fact 51 (f := .int "MOST_STEP" 31) rfl)
  }
  have more := c.more
  obtain ⟨m5, b5⟩ := He.ba more
  obtain ⟨m4, b4⟩ := He.ba m5
  obtain ⟨m3, b3⟩ := He.ba m4
  obtain ⟨m2, b2⟩ := He.ba m3
  obtain ⟨m1, b1⟩ := He.ba m2
  have C : EcOk K mg ⟨He.ga K "LaneError", He.ga K "BadCell", He.ga K "BadBanks", He.ga K "BadCounts", He.ga K "BadLaying", He.ga K "BadLot"⟩ := {
    LaneError := xcl_of (He.glo_ok X G (c1.fact 52 (f := .glo "LaneError") rfl)) (c1.fact 58 (f := .exc "LaneError") rfl)
    BadCell := xcl_of (He.glo_ok X G (c1.fact 53 (f := .glo "BadCell") rfl)) (c1.fact 59 (f := .exc "BadCell") rfl)
    BadBanks := xcl_of (He.glo_ok X G (c1.fact 54 (f := .glo "BadBanks") rfl)) (c1.fact 60 (f := .exc "BadBanks") rfl)
    BadCounts := xcl_of (He.glo_ok X G (c1.fact 55 (f := .glo "BadCounts") rfl)) (c1.fact 61 (f := .exc "BadCounts") rfl)
    BadLaying := xcl_of (He.glo_ok X G (c1.fact 56 (f := .glo "BadLaying") rfl)) (c1.fact 62 (f := .exc "BadLaying") rfl)
    BadLot := xcl_of (He.glo_ok X G (c1.fact 57 (f := .glo "BadLot") rfl)) (c1.fact 63 (f := .exc "BadLot") rfl)
    is := fun c hc => by
      simp only [List.mem_cons, List.mem_nil_iff, or_false] at hc
      rcases hc with rfl | rfl | rfl | rfl | rfl
      · exact Fx.isB_ok b1
      · exact Fx.isB_ok b2
      · exact Fx.isB_ok b3
      · exact Fx.isB_ok b4
      · exact Fx.isB_ok b5
  }
  have d8 : Df K mg "is_number" (top 8) ["value"] fd8.code := df_of F8 g8 fun _ _ _ _ _ _ us hl => match us, hl with | [_], _ => rfl
  have d13 : Df K mg "is_between" (top 13) ["thing", "low", "high"] fd13.code := df_of F13 g13 fun _ _ _ _ _ _ us hl => match us, hl with | [_, _, _], _ => rfl
  have d14 : Df K mg "need_counts" (top 14) ["counts"] fd14.code := df_of F14 g14 fun _ _ _ _ _ _ us hl => match us, hl with | [_], _ => rfl
  have d15 : Df K mg "need_banks" (top 15) ["banks"] fd15.code := df_of F15 g15 fun _ _ _ _ _ _ us hl => match us, hl with | [_], _ => rfl
  have d16 : Df K mg "shape_of" (top 16) ["counts"] fd16.code := df_of F16 g16 fun _ _ _ _ _ _ us hl => match us, hl with | [_], _ => rfl
  have d17 : Df K mg "is_cell_of" (top 17) ["counts", "thing"] fd17.code := df_of F17 g17 fun _ _ _ _ _ _ us hl => match us, hl with | [_, _], _ => rfl
  have d18 : Df K mg "is_laying_of" (top 18) ["counts", "banks", "thing"] fd18.code := df_of F18 g18 fun _ _ _ _ _ _ us hl => match us, hl with | [_, _, _], _ => rfl
  have d19 : Df K mg "need_laying" (top 19) ["counts", "banks", "laying"] fd19.code := df_of F19 g19 fun _ _ _ _ _ _ us hl => match us, hl with | [_, _, _], _ => rfl
  have d20 : Df K mg "bank_at" (top 20) ["counts", "banks", "laying", "cell"] fd20.code := df_of F20 g20 fun _ _ _ _ _ _ us hl => match us, hl with | [_, _, _, _], _ => rfl
  have d21 : Df K mg "is_lot_of" (top 21) ["counts", "thing"] fd21.code := df_of F21 g21 fun _ _ _ _ _ _ us hl => match us, hl with | [_, _], _ => rfl
  have d22 : Df K mg "need_lot" (top 22) ["counts", "lot"] fd22.code := df_of F22 g22 fun _ _ _ _ _ _ us hl => match us, hl with | [_, _], _ => rfl
  have d23 : Df K mg "cost_of" (top 23) ["counts", "banks", "laying", "lot"] fd23.code := df_of F23 g23 fun _ _ _ _ _ _ us hl => match us, hl with | [_, _, _, _], _ => rfl
  have d25 : DfK K mg "is_laying" (top 25) ["counts", "banks", "thing"] fd25.code := dfK_of F25 g25 (fun _ _ _ _ _ _ us hl => match us, hl with | [_, _, _], _ => rfl) (fun _ _ _ _ _ _ us hl => match us, hl with | [_, _, _], _ => rfl)
  have d26 : DfK K mg "bank_of" (top 26) ["counts", "banks", "laying", "cell"] fd26.code := dfK_of F26 g26 (fun _ _ _ _ _ _ us hl => match us, hl with | [_, _, _, _], _ => rfl) (fun _ _ _ _ _ _ us hl => match us, hl with | [_, _, _, _], _ => rfl)
  have d27 : DfK K mg "cost" (top 27) ["counts", "banks", "laying", "lot"] fd27.code := dfK_of F27 g27 (fun _ _ _ _ _ _ us hl => match us, hl with | [_, _, _, _], _ => rfl) (fun _ _ _ _ _ _ us hl => match us, hl with | [_, _, _, _], _ => rfl)
  have d29 : Df K mg "_law_begun" (top 29) ["_law_script"] fd29.code := df_of F29 g29 fun _ _ _ _ _ _ us hl => match us, hl with | [_], _ => rfl
  have d30 : Df K mg "_law_pick" (top 30) ["_law_draw", "_law_some"] fd30.code := df_of F30 g30 fun _ _ _ _ _ _ us hl => match us, hl with | [_, _], _ => rfl
  have d31 : Df K mg "_law_caught" (top 31) ["_law_task"] fd31.code := df_of F31 g31 fun _ _ _ _ _ _ us hl => match us, hl with | [_], _ => rfl
  have d32 : Df K mg "_law_is_whole" (top 32) ["_law_item"] fd32.code := df_of F32 g32 fun _ _ _ _ _ _ us hl => match us, hl with | [_], _ => rfl
  have d33 : Df K mg "_law_box" (top 33) ["_law_counts_here"] fd33.code := df_of F33 g33 fun _ _ _ _ _ _ us hl => match us, hl with | [_], _ => rfl
  have d34 : Df K mg "_law_take" (top 34) ["_law_draw", "_law_size"] fd34.code := df_of F34 g34 fun _ _ _ _ _ _ us hl => match us, hl with | [_, _], _ => rfl
  have d35 : Df K mg "_law_mixed" (top 35) ["_law_draw"] fd35.code := df_of F35 g35 fun _ _ _ _ _ _ us hl => match us, hl with | [_], _ => rfl
  have d36 : Df K mg "_law_few_of" (top 36) ["_law_draw", "_law_some", "_law_size"] fd36.code := df_of F36 g36 fun _ _ _ _ _ _ us hl => match us, hl with | [_, _, _], _ => rfl
  have d37 : Df K mg "_law_says" (top 37) ["_law_found", "_law_due"] fd37.code := df_of F37 g37 fun _ _ _ _ _ _ us hl => match us, hl with | [_, _], _ => rfl
  have d38 : Df K mg "_law_bent" (top 38) ["_law_draw", "_law_item"] fd38.code := df_of F38 g38 fun _ _ _ _ _ _ us hl => match us, hl with | [_, _], _ => rfl
  have d39 : Df K mg "_law_bank" (top 39) ["_law_counts_here", "_law_many_here", "_law_way_here", "_law_cell_here"] fd39.code := df_of F39 g39 fun _ _ _ _ _ _ us hl => match us, hl with | [_, _, _, _], _ => rfl
  have d40 : Df K mg "_law_price" (top 40) ["_law_counts_here", "_law_many_here", "_law_way_here", "_law_lot_here"] fd40.code := df_of F40 g40 fun _ _ _ _ _ _ us hl => match us, hl with | [_, _, _, _], _ => rfl
  have d41 : Df K mg "_law_way" (top 41) ["_law_draw", "_law_counts_here", "_law_many_here"] fd41.code := df_of F41 g41 fun _ _ _ _ _ _ us hl => match us, hl with | [_, _, _], _ => rfl
  have d42 : Df K mg "_law_is_way" (top 42) ["_law_counts_here", "_law_many_here", "_law_item"] fd42.code := df_of F42 g42 fun _ _ _ _ _ _ us hl => match us, hl with | [_, _, _], _ => rfl
  have d43 : Df K mg "_law_cells" (top 43) ["_law_counts_here"] fd43.code := df_of F43 g43 fun _ _ _ _ _ _ us hl => match us, hl with | [_], _ => rfl
  have d44 : Df K mg "_law_shared_part_of" (top 44) ["_law_one", "_law_two"] fd44.code := df_of F44 g44 fun _ _ _ _ _ _ us hl => match us, hl with | [_, _], _ => rfl
  have d45 : Df K mg "_law_lines_right" (top 45) ["_law_counts_here", "_law_many_here", "_law_number"] fd45.code := df_of F45 g45 fun _ _ _ _ _ _ us hl => match us, hl with | [_, _, _], _ => rfl
  have d46 : Df K mg "_law_wrong_lot" (top 46) ["_law_draw", "_law_counts_here", "_law_lot_here"] fd46.code := df_of F46 g46 fun _ _ _ _ _ _ us hl => match us, hl with | [_, _, _], _ => rfl
  have d47 : Df K mg "law" (top 47) ["_law_script"] (.ref (He.cT K ("law", none)).1) := df_tab F47 g47 fun _ _ _ _ _ _ us hl => match us, hl with | [_], _ => rfl
  have hnd : (tfl.map fun p => (He.cT K p).2).Nodup := of_decide_eq_true m1
  have hu : ∀ p ∈ tabl K, ∀ q ∈ tabl K, p.1 = q.1 → p.2 = q.2 := by
    have hnd2 : ((tabl K).map (·.1)).Nodup := hnd
    exact tab_uniq hnd2
  refine ⟨tfl.map (He.cT K), SpLaw (tabl K) K, fun p hp => ?_, fun H a ns hl hT hS => ?_, fun base _ _ hTB => ?_⟩
  · obtain ⟨q, hq, rfl⟩ := List.mem_map.mp hp
    exact ⟨c.empty q hq, c.out q hq, PySem.W.codeHd_of_K X (c.hd q hq)⟩
  · exact ⟨a, ns, rfl, tabs_start fun p hp => by
      obtain ⟨q, hq, e⟩ : ∃ q ∈ tfl, (He.cT K q).2 = p.1 := by
        simp only [tabl, List.mem_cons, List.mem_nil_iff, or_false] at hp
        rcases hp with rfl
        · exact ⟨("law", none), by simp [tfl], rfl⟩
      rw [← e]
      exact hT _ (List.mem_map.mpr ⟨q, hq, rfl⟩), hS, hl, fun _ => rfl⟩
  have tb_law : TabB base mg (He.cT K ("law", none)).1 (He.cT K ("law", none)).2 := hTB (He.cT K ("law", none)) (List.mem_map.mpr ⟨("law", none), by simp [tfl], rfl⟩)
  have ht_law : ((He.cT K ("law", none)).2, ("law.<locals>.<lambda>" : Str)) ∈ tabl K := by simp [tabl]
  have hu_law : ∀ p ∈ tabl K, p.1 = (He.cT K ("law", none)).2 → p.2 = ("law.<locals>.<lambda>" : Str) := fun p hp e => hu p hp _ ht_law e
  have c29 := ok_law_begun (P := PySem.Challenge.rw_lanesmeet_k62_layings_and_banks.prog) (w := w) (base := base) (T := tabl K) d29 B
  have c35 := ok_law_mixed (P := PySem.Challenge.rw_lanesmeet_k62_layings_and_banks.prog) (w := w) (base := base) (T := tabl K) d35 B
  have c34 := ok_law_take (P := PySem.Challenge.rw_lanesmeet_k62_layings_and_banks.prog) (w := w) (base := base) (T := tabl K) d34 B c35
  have c30 := ok_law_pick (P := PySem.Challenge.rw_lanesmeet_k62_layings_and_banks.prog) (w := w) (base := base) (T := tabl K) d30 B c34
  have c36 := ok_law_few_of (P := PySem.Challenge.rw_lanesmeet_k62_layings_and_banks.prog) (w := w) (base := base) (T := tabl K) d36 B c34
  have c33 := ok_law_box (P := PySem.Challenge.rw_lanesmeet_k62_layings_and_banks.prog) (w := w) (base := base) (T := tabl K) d33 B
  have c41 := ok_law_way (P := PySem.Challenge.rw_lanesmeet_k62_layings_and_banks.prog) (w := w) (base := base) (T := tabl K) d41 B c34 c30 c33
  have c32 := ok_law_is_whole (P := PySem.Challenge.rw_lanesmeet_k62_layings_and_banks.prog) (w := w) (base := base) (T := tabl K) d32 B
  have b0 : Cal PySem.Challenge.rw_lanesmeet_k62_layings_and_banks.prog w K mg base 5 "_law_bent" (SpSx (tabl K) 3 (fBent 0)) [] := cal_noneX d38 fun S ds d ⟨x, _, h, _⟩ => h
  have b1 := ok_law_bent (n := 0) d38 B c34 c30 c32 (by decide) b0
  have b2 := ok_law_bent (n := 1) d38 B c34 c30 c32 (by decide) b1
  have c38 := ok_law_bent (n := 2) d38 B c34 c30 c32 (by decide) b2
  have c46 := ok_law_wrong_lot (P := PySem.Challenge.rw_lanesmeet_k62_layings_and_banks.prog) (w := w) (base := base) (T := tabl K) d46 B c30 c33
  have c43 := ok_law_cells (P := PySem.Challenge.rw_lanesmeet_k62_layings_and_banks.prog) (w := w) (base := base) (T := tabl K) d43 B c33
  have c37 := ok_law_says (P := PySem.Challenge.rw_lanesmeet_k62_layings_and_banks.prog) (w := w) (base := base) (T := tabl K) d37 B
  have c39 := ok_law_bank (P := PySem.Challenge.rw_lanesmeet_k62_layings_and_banks.prog) (w := w) (base := base) (T := tabl K) d39 B
  have c40 := ok_law_price (P := PySem.Challenge.rw_lanesmeet_k62_layings_and_banks.prog) (w := w) (base := base) (T := tabl K) d40 B c39
  have c42 := ok_law_is_way (P := PySem.Challenge.rw_lanesmeet_k62_layings_and_banks.prog) (w := w) (base := base) (T := tabl K) d42 B c32 c33
  have c44 := ok_law_shared_part_of (P := PySem.Challenge.rw_lanesmeet_k62_layings_and_banks.prog) (w := w) (base := base) (T := tabl K) d44 B
  have c8 := ok_is_number (P := PySem.Challenge.rw_lanesmeet_k62_layings_and_banks.prog) (w := w) (base := base) (T := tabl K) d8 B
  have c13 := ok_is_between (P := PySem.Challenge.rw_lanesmeet_k62_layings_and_banks.prog) (w := w) (base := base) (T := tabl K) d13 B c8
  have c14 := ok_need_counts (P := PySem.Challenge.rw_lanesmeet_k62_layings_and_banks.prog) (w := w) (base := base) (T := tabl K) d14 B C c13
  have c15 := ok_need_banks (P := PySem.Challenge.rw_lanesmeet_k62_layings_and_banks.prog) (w := w) (base := base) (T := tabl K) d15 B C c13
  have c16 := ok_shape_of (P := PySem.Challenge.rw_lanesmeet_k62_layings_and_banks.prog) (w := w) (base := base) (T := tabl K) d16 B
  have c18 := ok_is_laying_of (P := PySem.Challenge.rw_lanesmeet_k62_layings_and_banks.prog) (w := w) (base := base) (T := tabl K) d18 B c13 c16
  have c19 := ok_need_laying (P := PySem.Challenge.rw_lanesmeet_k62_layings_and_banks.prog) (w := w) (base := base) (T := tabl K) d19 B C c18
  have c17 := ok_is_cell_of (P := PySem.Challenge.rw_lanesmeet_k62_layings_and_banks.prog) (w := w) (base := base) (T := tabl K) d17 B c13 c16
  have c21 := ok_is_lot_of (P := PySem.Challenge.rw_lanesmeet_k62_layings_and_banks.prog) (w := w) (base := base) (T := tabl K) d21 B c17
  have c22 := ok_need_lot (P := PySem.Challenge.rw_lanesmeet_k62_layings_and_banks.prog) (w := w) (base := base) (T := tabl K) d22 B C c21
  have c20 := ok_bank_at (P := PySem.Challenge.rw_lanesmeet_k62_layings_and_banks.prog) (w := w) (base := base) (T := tabl K) d20 B c16
  have c23 := ok_cost_of (P := PySem.Challenge.rw_lanesmeet_k62_layings_and_banks.prog) (w := w) (base := base) (T := tabl K) d23 B c20
  have c27 := ok_cost (P := PySem.Challenge.rw_lanesmeet_k62_layings_and_banks.prog) (w := w) (base := base) (T := tabl K) d27 B C c14 c15 c19 c22 c23
  have c45 := ok_law_lines_right (P := PySem.Challenge.rw_lanesmeet_k62_layings_and_banks.prog) (w := w) (base := base) (T := tabl K) d45 B c33 c44 c27
  have c25 := ok_is_laying (P := PySem.Challenge.rw_lanesmeet_k62_layings_and_banks.prog) (w := w) (base := base) (T := tabl K) d25 B C c14 c15 c18
  have c26 := ok_bank_of (P := PySem.Challenge.rw_lanesmeet_k62_layings_and_banks.prog) (w := w) (base := base) (T := tabl K) d26 B C c14 c15 c19 c17 c20
  exact ok_law (P := PySem.Challenge.rw_lanesmeet_k62_layings_and_banks.prog) (w := w) (base := base) (T := tabl K) d47 tb_law ht_law hu_law B C d31 c29 c34 c30 c36 c41 c38 c46 c43 c37 c33 c39 c40 c42 c45 c25 c26 c27
end K62
open PySem PySem.W PySem.Calls PyProof.Rows
set_option maxRecDepth 100000 in
set_option maxHeartbeats 0 in
theorem PySem.Challenge.cw_lanesmeet_k62_layings_and_banks_holds : PySem.Challenge.rw_lanesmeet_k62_layings_and_banks.Holds := by
  w_on; o_law
  refine HandSHeadRun.head_any (r := OpenLaw.row PySem.Challenge.rw_lanesmeet_k62_layings_and_banks) (q := view (OpenLaw.row PySem.Challenge.rw_lanesmeet_k62_layings_and_banks).prog [47]) (H := K62.hk) (ob := K62.ob) (M := 4000) (loose := K62.loose) (d := HandSHeadRun.topDef (OpenLaw.row PySem.Challenge.rw_lanesmeet_k62_layings_and_banks).prog 47) (kwd := []) K62.ob_eq
    (by kernel_rfl) (fun s => by kernel_rfl) K62.run (by kernel_rfl) (by kernel_rfl) (by kernel_rfl) (by rfl) (by first | assumption | decide +kernel) (by decide +kernel) ⟨rfl, rfl, rfl, rfl, rfl, by decide +kernel⟩ ?hw ?hc
  case hw => w_witness2
  case hc =>
    have en : (HandSHeadRun.topDef (OpenLaw.row PySem.Challenge.rw_lanesmeet_k62_layings_and_banks).prog 47).name = ("law" : PySem.Str) := by kernel_rfl
    refine Fx.walk_G (l := PySem.Challenge.rw_lanesmeet_k62_layings_and_banks) (n := 63) (k := 31) (y := "_law_script") rfl (by decide) (by kernel_rfl) ⟨rfl, by decide, by decide⟩ ?F
    intro w mg fa h Y G hmg
    obtain ⟨K, KX, c⟩ := Y
    rw [en]
    exact ⟨K, KX, K62.law_at KX G c⟩

