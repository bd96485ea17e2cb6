import PyProof.Rows.All
import Wide.All
import OpenK.AllK
import Wide.FinOn
import HandS.ForMost
import HandS.Lambda
import HandS.EndTab
import HandS.Wide
import HandS.Deep
import HandS.Flow
import HandS.Style
import HandS.TupAny
import HandS.Zip
import HandS.Star
import HandS.IsInst
import HandS.SortInts
import HandS.Conv
import HandS.DictComp
import HandS.SortKw
import KE.KMinKey
import HandS.Iter
import HandS.WordsDict
import HandS.Head0
import HandS.Head1
import HandS.Head2
import HandS.HeadEnd
import HandS.HeadHook1
import HandS.HeadHook2
import HandS.HeadHook3
import HandS.HeadHook4
import HandS.HeadWalk
import HandS.SetFor
import HandS.Strs
import KE.KStateDown
import PySem.Challenge.RW_lanesmeet_k43_whole_stretches_and_arcs
set_option Elab.async false
set_option linter.all false
set_option maxRecDepth 100000
set_option maxHeartbeats 4000000
/-! A calculus of data over the hand layer: what an expression, a test, a statement makes of plain data. -/
namespace Fx
open PySem PySem.Spec PyProof.Rows L2

/-! ### data -/
inductive D where
  | non | bl (b : Bool) | int (i : Int) | str (s : Str)
  | tup (ds : List D) | lst (ds : List D) | dic (kvs : List (Key × D)) | raw (v : V)

mutual
/-- in the part G of the heap v stands for d -/
inductive Rp (G : Hp) : V → D → Prop
  | non : Rp G .non .non
  | bl (b : Bool) : Rp G (.bl b) (.bl b)
  | int (i : Int) : Rp G (.int i) (.int i)
  | str (s : Str) : Rp G (.str s) (.str s)
  | raw (v : V) : Rp G v (.raw v)
  | tup {a : Addr} {xs : List V} {ds : List D} : G a = some (.tup xs) → RpL G xs ds → Rp G (.ref a) (.tup ds)
  | lst {a : Addr} {xs : List V} {ds : List D} : G a = some (.lst xs) → RpL G xs ds → Rp G (.ref a) (.lst ds)
  | dic {a : Addr} {o : Obj} {kvs : List (Key × V)} {kds : List (Key × D)} : G a = some (.frz o (.dK kvs)) → RpK G kvs kds → Rp G (.ref a) (.dic kds)
inductive RpL (G : Hp) : List V → List D → Prop
  | nil : RpL G [] []
  | cons {v : V} {vs : List V} {d : D} {ds : List D} : Rp G v d → RpL G vs ds → RpL G (v :: vs) (d :: ds)
inductive RpK (G : Hp) : List (Key × V) → List (Key × D) → Prop
  | nil : RpK G [] []
  | cons {k : Key} {v : V} {vs : List (Key × V)} {d : D} {ds : List (Key × D)} : Rp G v d → RpK G vs ds → RpK G ((k, v) :: vs) ((k, d) :: ds)
end
mutual
theorem Rp.mono {G G' : Hp} (e : Same G G') : ∀ {v : V} {d : D}, Rp G v d → Rp G' v d
  | _, _, .non => .non
  | _, _, .bl b => .bl b
  | _, _, .int i => .int i
  | _, _, .str s => .str s
  | _, _, .raw v => .raw v
  | _, _, .tup h r => .tup (e _ _ h) (RpL.mono e r)
  | _, _, .lst h r => .lst (e _ _ h) (RpL.mono e r)
  | _, _, .dic h r => .dic (e _ _ h) (RpK.mono e r)
theorem RpL.mono {G G' : Hp} (e : Same G G') : ∀ {vs : List V} {ds : List D}, RpL G vs ds → RpL G' vs ds
  | _, _, .nil => .nil
  | _, _, .cons h r => .cons (Rp.mono e h) (RpL.mono e r)
theorem RpK.mono {G G' : Hp} (e : Same G G') : ∀ {vs : List (Key × V)} {ds : List (Key × D)}, RpK G vs ds → RpK G' vs ds
  | _, _, .nil => .nil
  | _, _, .cons h r => .cons (Rp.mono e h) (RpK.mono e r)
end
theorem RpL.len {G : Hp} : ∀ {vs : List V} {ds : List D}, RpL G vs ds → vs.length = ds.length
  | _, _, .nil => rfl
  | _, _, .cons _ r => congrArg (· + 1) (RpL.len r)
theorem RpL.app {G : Hp} : ∀ {vs ws : List V} {ds es : List D}, RpL G vs ds → RpL G ws es → RpL G (vs ++ ws) (ds ++ es)
  | _, _, _, _, .nil, s => s
  | _, _, _, _, .cons h r, s => .cons h (RpL.app r s)
theorem RpL.get {G : Hp} : ∀ {vs : List V} {ds : List D} {i : Nat} {d : D}, RpL G vs ds → ds[i]? = some d → ∃ v, vs[i]? = some v ∧ Rp G v d
  | _, _, _, _, .nil, e => by simp at e
  | _, _, 0, _, .cons h _, e => by simp at e; subst e; exact ⟨_, rfl, h⟩
  | _, _, i + 1, d, .cons _ r, e => by
    obtain ⟨v, h1, h2⟩ := RpL.get (i := i) r (by simpa using e)
    exact ⟨v, by simpa using h1, h2⟩
theorem RpL.getV {G : Hp} : ∀ {vs : List V} {ds : List D} {i : Nat} {v : V}, RpL G vs ds → vs[i]? = some v → ∃ d, ds[i]? = some d ∧ Rp G v d
  | _, _, _, _, .nil, e => by simp at e
  | _, _, 0, _, .cons h _, e => by simp at e; subst e; exact ⟨_, rfl, h⟩
  | _, _, i + 1, d, .cons _ r, e => by
    obtain ⟨v, h1, h2⟩ := RpL.getV (i := i) r (by simpa using e)
    exact ⟨v, by simpa using h1, h2⟩
theorem RpL.take {G : Hp} : ∀ {vs : List V} {ds : List D} (n : Nat), RpL G vs ds → RpL G (vs.take n) (ds.take n)
  | _, _, 0, _ => .nil
  | _, _, _ + 1, .nil => .nil
  | _, _, n + 1, .cons h r => .cons h (RpL.take n r)
theorem RpL.drop {G : Hp} : ∀ {vs : List V} {ds : List D} (n : Nat), RpL G vs ds → RpL G (vs.drop n) (ds.drop n)
  | _, _, 0, r => r
  | _, _, _ + 1, .nil => .nil
  | _, _, n + 1, .cons _ r => RpL.drop n r
theorem RpL.set {G : Hp} {v : V} {d : D} (h : Rp G v d) : ∀ {vs : List V} {ds : List D} (n : Nat), RpL G vs ds → RpL G (vs.set n v) (ds.set n d)
  | _, _, _, .nil => .nil
  | _, _, 0, .cons _ r => .cons h r
  | _, _, n + 1, .cons q r => .cons q (RpL.set h n r)
theorem RpL.ints {G : Hp} : ∀ {vs : List V} {ns : List Int}, RpL G vs (ns.map D.int) → vs = ns.map V.int
  | _, [], .nil => rfl
  | _, n :: ns, .cons h r => by
    cases h
    rw [RpL.ints r]; rfl
theorem RpL.of_ints {G : Hp} : ∀ (ns : List Int), RpL G (ns.map V.int) (ns.map D.int)
  | [] => .nil
  | n :: ns => .cons (.int n) (RpL.of_ints ns)
theorem RpL.bls {G : Hp} : ∀ {vs : List V} {ns : List Bool}, RpL G vs (ns.map D.bl) → vs = ns.map V.bl
  | _, [], .nil => rfl
  | _, n :: ns, .cons h r => by
    cases h
    rw [RpL.bls r]; rfl

/-! ### worlds: what may change, what holds of it -/
def NoTb (o : HO) : Prop := ∀ ps, o ≠ .tbl ps
/-- nothing is tracked at a, but a table perhaps -/
def Nf (H : Hp) (a : Addr) : Prop := ∀ o, H a = some o → ¬ NoTb o
theorem nf_none {H : Hp} {a : Addr} (h : H a = none) : Nf H a := fun o e => by rw [h] at e; cases e
theorem nf_no {H : Hp} {a : Addr} {o : HO} (h : H a = some o) (n : NoTb o) : ¬ Nf H a := fun z => z o h n
structure Wld (T : List (Addr × Str)) where
  M : Addr → Prop
  J : Nat → Hp → Prop
  tabs : ∀ {c : Nat} {H : Hp}, J c H → LamX.Tabs T H
  mono : ∀ {c c' : Nat} {H : Hp}, c ≤ c' → J c H → J c' H
  pure : ∀ {c : Nat} {H H' : Hp}, J c H → (∀ a o, H a = some o → NoTb o → H' a = some o) → LamX.Tabs T H' → J c H'
  mtr : ∀ {c : Nat} {H : Hp} {a : Addr}, J c H → M a → ¬ Nf H a
  updl : ∀ {c : Nat} {H : Hp} {l : Addr} {xs ys : List V}, J c H → ¬ M l → H l = some (.lst xs) → J c (upd H l (.lst ys))
  upddk : ∀ {c : Nat} {H : Hp} {l : Addr} {xs : List (Key × V)} {o : HO}, J c H → ¬ M l → H l = some (.dK xs) → J c (upd H l o)

theorem same_new {H : Hp} {p : Addr} (h : H p = none) (o : HO) : Same H (upd H p o) := fun b u q => by rw [upd_ne (ne_of_none q h)]; exact q
theorem tabs_same {T : List (Addr × Str)} {H H' : Hp} (t : LamX.Tabs T H) (e : Same H H') : LamX.Tabs T H' := t.ext e
theorem tabs_upd {T : List (Addr × Str)} {H : Hp} {l : Addr} {xs ys : List V} (t : LamX.Tabs T H) (hl : H l = some (.lst xs)) : LamX.Tabs T (upd H l (.lst ys)) := fun p hp => by
  obtain ⟨ps, h1, h2, h3⟩ := t p hp
  have n1 : p.1 ≠ l := ne_of h1 hl (by intro z; cases z)
  refine ⟨ps, by rw [upd_ne n1]; exact h1, h2, fun pos cv hc => ?_⟩
  obtain ⟨c, e1, e2⟩ := h3 pos cv hc
  have n2 : c ≠ l := ne_of e2 hl (by intro z; unfold LamX.CodeO at z; cases z)
  exact ⟨c, e1, by rw [upd_ne n2]; exact e2⟩
theorem tabs_updd {T : List (Addr × Str)} {H : Hp} {l : Addr} {xs : List (Key × V)} {o : HO} (t : LamX.Tabs T H) (hl : H l = some (.dK xs)) : LamX.Tabs T (upd H l o) := fun p hp => by
  obtain ⟨ps, h1, h2, h3⟩ := t p hp
  have n1 : p.1 ≠ l := ne_of h1 hl (by intro z; cases z)
  refine ⟨ps, by rw [upd_ne n1]; exact h1, h2, fun pos cv hc => ?_⟩
  obtain ⟨c, e1, e2⟩ := h3 pos cv hc
  have n2 : c ≠ l := ne_of e2 hl (by intro z; unfold LamX.CodeO at z; cases z)
  exact ⟨c, e1, by rw [upd_ne n2]; exact e2⟩
/-- nothing but tables changes -/
def W0 (T : List (Addr × Str)) : Wld T where
  M := fun _ => False
  J := fun _ H => LamX.Tabs T H
  tabs := fun h => h
  mono := fun _ h => h
  pure := fun _ _ h => h
  mtr := fun _ h => h.elim
  updl := fun h _ hl => tabs_upd h hl
  upddk := fun h _ hl => tabs_updd h hl

section
variable {T : List (Addr × Str)} {W : Wld T} {G H G1 H1 G2 H2 H0 : Hp} {G0 : Hp × Hp} {c c' k : Nat}
/-- G: the part that stands still -/
def GOk (W : Wld T) (G H : Hp) : Prop := ∀ a o, G a = some o → H a = some o ∧ NoTb o ∧ ¬ W.M a
structure Stp (W : Wld T) (G H G' H' : Hp) : Prop where
  gg : Same G G'
  hh : ∀ a o, H a = some o → ¬ W.M a → NoTb o → H' a = some o
  fr : ∀ a, G' a ≠ none → G a ≠ none ∨ Nf H a
  dom : ∀ a, Nf H' a → Nf H a
theorem Stp.refl : Stp W G H G H := ⟨fun _ _ h => h, fun _ _ h _ _ => h, fun _ h => .inl h, fun _ h => h⟩
theorem Stp.trans (a : Stp W G H G1 H1) (b : Stp W G1 H1 G2 H2) : Stp W G H G2 H2 :=
  ⟨a.gg.trans b.gg, fun x o h m n => b.hh x o (a.hh x o h m n) m n, fun x h => (b.fr x h).elim (a.fr x) fun z => .inr (a.dom x z), fun x h => a.dom x (b.dom x h)⟩
theorem Stp.lift (s : Stp (W0 T) G H G1 H1) : Stp W G H G1 H1 := ⟨s.gg, fun a o h _ n => s.hh a o h (fun z => z) n, s.fr, s.dom⟩
theorem GOk.lift (g : GOk W G H) (j : W.J c H) (s : Stp (W0 T) G H G1 H1) (g1 : GOk (W0 T) G1 H1) : GOk W G1 H1 := fun a o h => by
  obtain ⟨h1, h2, _⟩ := g1 a o h
  refine ⟨h1, h2, fun m => ?_⟩
  rcases s.fr a (by rw [h]; simp) with z | z
  · cases q : G a with
    | none => exact z q
    | some u => exact (g a u q).2.2 m
  · exact W.mtr j m z
theorem J_lift (j : W.J c H) (s : Stp (W0 T) G H G1 H1) (t : LamX.Tabs T H1) : W.J c H1 := W.pure j (fun a o h n => s.hh a o h (fun z => z) n) t
theorem GOk.drop (g : GOk W G H) : GOk (W0 T) G H := fun a o h => let ⟨h1, h2, _⟩ := g a o h; ⟨h1, h2, fun z => z⟩
theorem GOk.same (g : GOk W G H) : Same G H := fun a o h => (g a o h).1
theorem GOk.none (g : GOk W G H) {a : Addr} (h : H a = Option.none) : G a = Option.none := by
  cases q : G a with
  | none => rfl
  | some o => rw [(g a o q).1] at h; cases h

/-- a new object that stands still -/
theorem stp_new {p : Addr} {o : HO} (g : GOk W G H) (hp : H p = none) : Stp W G H (upd G p o) (upd H p o) :=
  ⟨same_new (g.none hp) o, fun a u h _ _ => same_new hp o a u h, fun a h => by
    by_cases e : a = p
    · exact .inr (by rw [e]; exact nf_none hp)
    · rw [upd_ne e] at h; exact .inl h, fun a h => by
    by_cases e : a = p
    · rw [e]; exact nf_none hp
    · unfold Nf at h; rw [upd_ne e] at h; exact h⟩
theorem gok_new {p : Addr} {o : HO} (g : GOk W G H) (j : W.J c H) (hp : H p = none) (n : NoTb o) : GOk W (upd G p o) (upd H p o) := fun a u h => by
  by_cases e : a = p
  · subst e
    rw [upd_same] at h ⊢
    cases h
    exact ⟨rfl, n, fun m => W.mtr j m (nf_none hp)⟩
  · rw [upd_ne e] at h ⊢
    exact g a u h
theorem J_new {p : Addr} {o : HO} (j : W.J c H) (hp : H p = none) : W.J c (upd H p o) := W.pure j (fun a u h _ => same_new hp o a u h) (tabs_same (W.tabs j) (same_new hp o))
theorem J_same (j : W.J c H) (e : Same H H1) : W.J c H1 := W.pure j (fun a u h _ => e a u h) (tabs_same (W.tabs j) e)
theorem noTb_tup (xs : List V) : NoTb (.tup xs) := fun _ z => by cases z
theorem noTb_lst (xs : List V) : NoTb (.lst xs) := fun _ z => by cases z
theorem noTb_dK (xs : List (Key × V)) : NoTb (.dK xs) := fun _ z => by cases z
theorem noTb_frz (o : Obj) (u : HO) : NoTb (.frz o u) := fun _ z => by cases z

/-! ### environments -/
inductive Slot where
  | emp | dat (d : D) | mu (ds : List D)
abbrev Env' := List Slot

structure EnvOk (W : Wld T) (H0 G H : Hp) (σ : L2.St) (env : Env') : Prop where
  len : σ.length = env.length
  dat : ∀ (i : Nat) (d : D), env[i]? = some (.dat d) → ∃ v, σ[i]? = some (some v) ∧ Rp G v d
  mu : ∀ (i : Nat) (ds : List D), env[i]? = some (.mu ds) → ∃ l xs, σ[i]? = some (some (.ref l)) ∧ H l = some (.lst xs) ∧ G l = none ∧ RpL G xs ds ∧ ¬ W.M l ∧ Nf H0 l
  apart : ∀ (i j : Nat) (ds es : List D) (l : Addr), i ≠ j → env[i]? = some (.mu ds) → env[j]? = some (.mu es) → σ[i]? = some (some (.ref l)) → σ[j]? ≠ some (some (.ref l))
structure At (W : Wld T) (G0 : Hp × Hp) (H0 : Hp) (c : Nat) (G H : Hp) (σ : L2.St) (env : Env') : Prop where
  st : Stp W G0.2 H0 G H
  sb : Same G0.1 G
  gok : GOk W G H
  j : W.J c H
  env : EnvOk W H0 G H σ env
theorem At.step {σ : L2.St} {env : Env'} (A : At W G0 H0 c G H σ env) (s : Stp W G H G1 H1) (g : GOk W G1 H1) (j : W.J c' H1) : At W G0 H0 c' G1 H1 σ env := by
  refine ⟨A.st.trans s, A.sb.trans s.gg, g, j, A.env.len, fun i d h => ?_, fun i ds h => ?_, A.env.apart⟩
  · obtain ⟨v, e, r⟩ := A.env.dat i d h
    exact ⟨v, e, r.mono s.gg⟩
  · obtain ⟨l, xs, e, hl, gl, r, m, n⟩ := A.env.mu i ds h
    refine ⟨l, xs, e, s.hh l _ hl m (noTb_lst _), ?_, r.mono s.gg, m, n⟩
    cases q : G1 l with
    | none => rfl
    | some o =>
      rcases s.fr l (by rw [q]; simp) with z | z
      · exact absurd gl z
      · exact absurd z (nf_no hl (noTb_lst _))
/-- a slot is given data -/
theorem At.setD {σ : L2.St} {env : Env'} {v : V} {d : D} (A : At W G0 H0 c G H σ env) (i : Nat) (r : Rp G v d) : At W G0 H0 c G H (σ.set i (some v)) (env.set i (.dat d)) := by
  refine ⟨A.st, A.sb, A.gok, A.j, by rw [List.length_set, List.length_set, A.env.len], fun k e h => ?_, fun k ds h => ?_, fun p q ds es l ne h1 h2 h3 => ?_⟩
  · by_cases hk : k = i
    · subst hk
      by_cases hl : k < env.length
      · rw [List.getElem?_set_self hl] at h
        cases h
        exact ⟨v, List.getElem?_set_self (by rw [A.env.len]; exact hl), r⟩
      · rw [List.getElem?_eq_none (by simpa using hl)] at h; cases h
    · rw [List.getElem?_set_ne (Ne.symm hk)] at h ⊢
      exact A.env.dat k e h
  · by_cases hk : k = i
    · subst hk
      by_cases hl : k < env.length
      · rw [List.getElem?_set_self hl] at h; cases h
      · rw [List.getElem?_eq_none (by simpa using hl)] at h; cases h
    · rw [List.getElem?_set_ne (Ne.symm hk)] at h ⊢
      exact A.env.mu k ds h
  · have key : ∀ (k : Nat) (ds : List D), (env.set i (.dat d))[k]? = some (.mu ds) → k ≠ i := fun k ds h e => by
      subst e
      by_cases hl : k < env.length
      · rw [List.getElem?_set_self hl] at h; cases h
      · rw [List.getElem?_eq_none (by simpa using hl)] at h; cases h
    have n1 := key p ds h1
    have n2 := key q es h2
    rw [List.getElem?_set_ne (Ne.symm n1)] at h1 h3
    rw [List.getElem?_set_ne (Ne.symm n2)] at h2 ⊢
    exact A.env.apart p q ds es l ne h1 h2 h3
/-- a slot is forgotten -/
theorem At.drop {σ : L2.St} {env : Env'} (A : At W G0 H0 c G H σ env) (i : Nat) (x : Option V) : At W G0 H0 c G H (σ.set i x) (env.set i .emp) := by
  have key : ∀ (k : Nat) (s : Slot), s ≠ .emp → (env.set i .emp)[k]? = some s → k ≠ i := fun k s hs h e => by
    subst e
    by_cases hl : k < env.length
    · rw [List.getElem?_set_self hl] at h; exact hs (Option.some.inj h).symm
    · rw [List.getElem?_eq_none (by simpa using hl)] at h; cases h
  refine ⟨A.st, A.sb, A.gok, A.j, by rw [List.length_set, List.length_set, A.env.len], fun k e h => ?_, fun k ds h => ?_, fun p q ds es l ne h1 h2 h3 => ?_⟩
  · have n := key k _ (by simp) h
    rw [List.getElem?_set_ne (Ne.symm n)] at h ⊢
    exact A.env.dat k e h
  · have n := key k _ (by simp) h
    rw [List.getElem?_set_ne (Ne.symm n)] at h ⊢
    exact A.env.mu k ds h
  · have n1 := key p _ (by simp) h1
    have n2 := key q _ (by simp) h2
    rw [List.getElem?_set_ne (Ne.symm n1)] at h1 h3
    rw [List.getElem?_set_ne (Ne.symm n2)] at h2 ⊢
    exact A.env.apart p q ds es l ne h1 h2 h3
def wipeE (env : Env') : List Nat → Env'
  | [] => env
  | v :: vs => (wipeE env vs).set v .emp
theorem At.wipe {σ : L2.St} {env : Env'} (A : At W G0 H0 c G H σ env) : ∀ vs : List Nat, At W G0 H0 c G H (wipe σ vs) (wipeE env vs)
  | [] => A
  | v :: vs => by
    unfold L2.wipe wipeE
    exact (At.wipe A vs).drop v none
theorem wipe_get {σ : L2.St} {i : Nat} : ∀ {vs : List Nat}, (wipe σ vs)[i]? = if i ∈ vs ∧ i < σ.length then some none else σ[i]?
  | [] => by simp [L2.wipe]
  | v :: vs => by
    unfold L2.wipe
    rw [List.getElem?_set, wipe_get (vs := vs), wipe_length]
    by_cases h1 : v = i
    · subst h1
      by_cases h2 : v < σ.length
      · simp [h2]
      · simp [h2]
    · rw [if_neg h1]
      have : (i ∈ v :: vs) = (i ∈ vs) := by
        simp only [List.mem_cons, eq_iff_iff]
        exact ⟨fun z => z.resolve_left fun e => h1 e.symm, .inr⟩
      simp only [this]
theorem wipe_set {σ : L2.St} {j : Nat} {x : Option V} {vs : List Nat} (h : j ∈ vs) : wipe (σ.set j x) vs = wipe σ vs := by
  apply List.ext_getElem?
  intro i
  rw [wipe_get, wipe_get, List.length_set]
  by_cases c : i ∈ vs ∧ i < σ.length
  · rw [if_pos c, if_pos c]
  · rw [if_neg c, if_neg c]
    by_cases e : j = i
    · subst e
      have : ¬ j < σ.length := fun z => c ⟨h, z⟩
      rw [List.getElem?_eq_none (by rw [List.length_set]; omega), List.getElem?_eq_none (by omega)]
    · rw [List.getElem?_set_ne e]
theorem wipe_wipe {σ : L2.St} {vs : List Nat} : wipe (wipe σ vs) vs = wipe σ vs := by
  apply List.ext_getElem?
  intro i
  rw [wipe_get, wipe_length]
  by_cases c : i ∈ vs ∧ i < σ.length
  · rw [if_pos c, wipe_get, if_pos c]
  · rw [if_neg c]

/-! ### judgements -/
def EN (W : Wld T) (te : TE) (env : Env') (c k : Nat) (P : D → Prop) : Prop := ∀ G0 H0 σ G H, At W G0 H0 c G H σ env → ∀ Q : VK,
  (∀ v d G2 H2, Stp W G H G2 H2 → GOk W G2 H2 → W.J (c + k) H2 → Rp G2 v d → P d → Q v H2) → te σ H Q
def Kt (W : Wld T) (c : Nat) (G H : Hp) (d : D) (Q : VK) : Prop := ∀ v G2 H2, Stp W G H G2 H2 → GOk W G2 H2 → W.J c H2 → Rp G2 v d → Q v H2
def ED (W : Wld T) (te : TE) (env : Env') (d : D) : Prop := ∀ c G0 H0 σ G H, At W G0 H0 c G H σ env → ∀ Q : VK, Kt W c G H d Q → te σ H Q
def ET (W : Wld T) (tt : TT) (env : Env') (b : Bool) : Prop := ∀ c G0 H0 σ G H, At W G0 H0 c G H σ env → ∀ Q : Bool → Hp → Prop,
  (∀ G2 H2, Stp W G H G2 H2 → GOk W G2 H2 → W.J c H2 → Q b H2) → tt σ H Q
def ETN (W : Wld T) (tt : TT) (env : Env') (c k : Nat) (P : Bool → Prop) : Prop := ∀ G0 H0 σ G H, At W G0 H0 c G H σ env → ∀ Q : Bool → Hp → Prop,
  (∀ b G2 H2, Stp W G H G2 H2 → GOk W G2 H2 → W.J (c + k) H2 → P b → Q b H2) → tt σ H Q
def EA (W : Wld T) (ta : TA) (env : Env') (ds : List D) : Prop := ∀ c G0 H0 σ G H, At W G0 H0 c G H σ env → ∀ Q : List V → Hp → Prop,
  (∀ vs G2 H2, Stp W G H G2 H2 → GOk W G2 H2 → W.J c H2 → RpL G2 vs ds → Q vs H2) → ta σ H Q
def EAN (W : Wld T) (ta : TA) (env : Env') (c k : Nat) (P : List D → Prop) : Prop := ∀ G0 H0 σ G H, At W G0 H0 c G H σ env → ∀ Q : List V → Hp → Prop,
  (∀ vs ds G2 H2, Stp W G H G2 H2 → GOk W G2 H2 → W.J (c + k) H2 → RpL G2 vs ds → P ds → Q vs H2) → ta σ H Q
theorem ED.n {te : TE} {env : Env'} {d : D} (h : ED W te env d) : EN W te env c 0 (fun x => x = d) := fun G0 H0 σ G H A Q q => h c G0 H0 σ G H A Q fun v G2 H2 s g j r => q v d G2 H2 s g j r rfl
theorem ET.n {te : TT} {env : Env'} {b : Bool} (h : ET W te env b) : ETN W te env c 0 (fun x => x = b) := fun G0 H0 σ G H A Q q => h c G0 H0 σ G H A Q fun G2 H2 s g j => q b G2 H2 s g j rfl
theorem EA.n {ta : TA} {env : Env'} {ds : List D} (h : EA W ta env ds) : EAN W ta env c 0 (fun x => x = ds) := fun G0 H0 σ G H A Q q => h c G0 H0 σ G H A Q fun v G2 H2 s g j r => q v ds G2 H2 s g j r rfl
theorem EN.imp {te : TE} {env : Env'} {P P' : D → Prop} {k' : Nat} (h : EN W te env c k P) (hk : k ≤ k') (hp : ∀ d, P d → P' d) : EN W te env c k' P' := fun G0 H0 σ G H A Q q =>
  h G0 H0 σ G H A Q fun v d G2 H2 s g j r p => q v d G2 H2 s g (W.mono (Nat.add_le_add_left hk c) j) r (hp d p)
theorem EN.det {te : TE} {env : Env'} {d : D} (h : ∀ c, EN W te env c 0 (fun x => x = d)) : ED W te env d := fun c G0 H0 σ G H A Q q => h c G0 H0 σ G H A Q fun v d' G2 H2 s g j r e => by
  subst e
  exact q v G2 H2 s g j r
theorem ED.eq {te : TE} {env : Env'} {d d' : D} (h : ED W te env d) (e : d = d') : ED W te env d' := e ▸ h
theorem ET.eq {te : TT} {env : Env'} {b b' : Bool} (h : ET W te env b) (e : b = b') : ET W te env b' := e ▸ h

/-! ### names, constants -/
theorem ed_var {env : Env'} {d : D} {i : Nat} (h : env[i]? = some (.dat d)) : ED W (tVar i) env d := fun c G0 H0 σ G H A Q q => by
  obtain ⟨v, e, r⟩ := A.env.dat i d h
  exact ⟨v, e, q v G H Stp.refl A.gok A.j r⟩
theorem ed_c {env : Env'} {v : V} {d : D} (h : ∀ G, Rp G v d) : ED W (tC v) env d := fun c G0 H0 σ G H A Q q => q v G H Stp.refl A.gok A.j (h G)
theorem ed_int {env : Env'} {i : Int} : ED W (tC (.int i)) env (.int i) := ed_c fun _ => .int i
theorem ed_bl {env : Env'} {b : Bool} : ED W (tC (.bl b)) env (.bl b) := ed_c fun _ => .bl b
theorem ed_non {env : Env'} : ED W (tC .non) env .non := ed_c fun _ => .non
theorem ed_str {env : Env'} {s : Str} : ED W (tC (.str s)) env (.str s) := ed_c fun _ => .str s
theorem ed_raw {env : Env'} {v : V} : ED W (tC v) env (.raw v) := ed_c fun _ => .raw v

/-! ### argument lists, displays -/
theorem ea_nil {env : Env'} : EA W tNil env [] := fun c G0 H0 σ G H A Q q => q [] G H Stp.refl A.gok A.j .nil
theorem ea_cons {env : Env'} {te : TE} {ta : TA} {d : D} {ds : List D} (h : ED W te env d) (hr : EA W ta env ds) : EA W (tCons te ta) env (d :: ds) := fun c G0 H0 σ G H A Q q =>
  h c G0 H0 σ G H A _ fun v G1 H1 s1 g1 j1 r1 => hr c G0 H0 σ G1 H1 (A.step s1 g1 j1) _ fun vs G2 H2 s2 g2 j2 r2 => q (v :: vs) G2 H2 (s1.trans s2) g2 j2 (.cons (r1.mono s2.gg) r2)
theorem ean_nil {env : Env'} : EAN W tNil env c 0 (fun ds => ds = []) := ea_nil.n
theorem ean_cons {env : Env'} {te : TE} {ta : TA} {P : D → Prop} {R : List D → Prop} {k2 : Nat} (h : EN W te env c k P) (hr : EAN W ta env (c + k) k2 R) : EAN W (tCons te ta) env c (k + k2) (fun l => ∃ d ds, l = d :: ds ∧ P d ∧ R ds) := fun G0 H0 σ G H A Q q =>
  h G0 H0 σ G H A _ fun v d G1 H1 s1 g1 j1 r1 p1 => hr G0 H0 σ G1 H1 (A.step s1 g1 j1) _ fun vs ds G2 H2 s2 g2 j2 r2 p2 => q (v :: vs) (d :: ds) G2 H2 (s1.trans s2) g2 (by rw [← Nat.add_assoc]; exact j2) (.cons (r1.mono s2.gg) r2) ⟨d, ds, rfl, p1, p2⟩
theorem sqT_of {K : PySem.W.Frag} {a : Addr} {xs : List V} (g : GOk W G H) (h : G a = some (.tup xs)) : SqT K H a xs := SqT.of (g.same _ _ h)
theorem sqL_of {K : PySem.W.Frag} {a : Addr} {xs : List V} (g : GOk W G H) (h : G a = some (.lst xs)) : SqL K H a xs := SqL.of (g.same _ _ h)
theorem ea_starT {K : PySem.W.Frag} {env : Env'} {te : TE} {ta : TA} {es ds : List D} (h : ED W te env (.tup es)) (hr : EA W ta env ds) : EA W (StX.tStar K te ta) env (es ++ ds) := fun c G0 H0 σ G H A Q q =>
  h c G0 H0 σ G H A _ fun v G1 H1 s1 g1 j1 r1 => by
    cases r1 with
    | tup ha ra =>
      refine ⟨_, _, rfl, .inl (sqT_of g1 ha), ?_⟩
      exact hr c G0 H0 σ G1 H1 (A.step s1 g1 j1) _ fun vs G2 H2 s2 g2 j2 r2 => q _ G2 H2 (s1.trans s2) g2 j2 ((ra.mono s2.gg).app r2)
theorem ed_tup {env : Env'} {ta : TA} {ds : List D} (h : EA W ta env ds) (hz : ds.length ≤ 100000) : ED W (tTup ta) env (.tup ds) := fun c G0 H0 σ G H A Q q =>
  h c G0 H0 σ G H A _ fun vs G1 H1 s1 g1 j1 r1 => ⟨by rw [r1.len]; exact Nat.le_trans hz (by decide), fun p hp =>
    q (.ref p) _ _ (s1.trans (stp_new g1 hp)) (gok_new g1 j1 hp (noTb_tup _)) (J_new j1 hp) (.tup upd_same (r1.mono (same_new (g1.none hp) _)))⟩
theorem ed_lst {env : Env'} {ta : TA} {ds : List D} (h : EA W ta env ds) (hz : ds.length ≤ 100000) : ED W (tLst ta) env (.lst ds) := fun c G0 H0 σ G H A Q q =>
  h c G0 H0 σ G H A _ fun vs G1 H1 s1 g1 j1 r1 => ⟨by rw [r1.len]; exact Nat.le_trans hz (by decide), fun p hp =>
    q (.ref p) _ _ (s1.trans (stp_new g1 hp)) (gok_new g1 j1 hp (noTb_lst _)) (J_new j1 hp) (.lst upd_same (r1.mono (same_new (g1.none hp) _)))⟩
theorem en_tup {env : Env'} {ta : TA} {P : List D → Prop} (h : EAN W ta env c k P) (hz : ∀ ds, P ds → ds.length ≤ 100000) : EN W (tTup ta) env c k (fun d => ∃ ds, d = .tup ds ∧ P ds) := fun G0 H0 σ G H A Q q =>
  h G0 H0 σ G H A _ fun vs ds G1 H1 s1 g1 j1 r1 p1 => ⟨by rw [r1.len]; exact Nat.le_trans (hz ds p1) (by decide), fun p hp =>
    q (.ref p) _ _ _ (s1.trans (stp_new g1 hp)) (gok_new g1 j1 hp (noTb_tup _)) (J_new j1 hp) (.tup upd_same (r1.mono (same_new (g1.none hp) _))) ⟨ds, rfl, p1⟩⟩
theorem en_lst {env : Env'} {ta : TA} {P : List D → Prop} (h : EAN W ta env c k P) (hz : ∀ ds, P ds → ds.length ≤ 100000) : EN W (tLst ta) env c k (fun d => ∃ ds, d = .lst ds ∧ P ds) := fun G0 H0 σ G H A Q q =>
  h G0 H0 σ G H A _ fun vs ds G1 H1 s1 g1 j1 r1 p1 => ⟨by rw [r1.len]; exact Nat.le_trans (hz ds p1) (by decide), fun p hp =>
    q (.ref p) _ _ _ (s1.trans (stp_new g1 hp)) (gok_new g1 j1 hp (noTb_lst _)) (J_new j1 hp) (.lst upd_same (r1.mono (same_new (g1.none hp) _))) ⟨ds, rfl, p1⟩⟩

/-! ### operators by values -/
def RD2 (W : Wld T) (r : R2) (d1 d2 d : D) : Prop := ∀ c G H v1 v2, GOk W G H → W.J c H → Rp G v1 d1 → Rp G v2 d2 → ∀ Q : VK, Kt W c G H d Q → r v1 v2 H Q
def RD1 (W : Wld T) (r : V → Hp → VK → Prop) (d1 d : D) : Prop := ∀ c G H v1, GOk W G H → W.J c H → Rp G v1 d1 → ∀ Q : VK, Kt W c G H d Q → r v1 H Q
def RDL (W : Wld T) (r : List V → Hp → VK → Prop) (ds : List D) (d : D) : Prop := ∀ c G H vs, GOk W G H → W.J c H → RpL G vs ds → ∀ Q : VK, Kt W c G H d Q → r vs H Q
theorem Kt.here {Q : VK} {v : V} {d : D} (q : Kt W c G H d Q) (g : GOk W G H) (j : W.J c H) (r : Rp G v d) : Q v H := q v G H Stp.refl g j r
theorem Kt.new {Q : VK} {d : D} {o : HO} {p : Addr} (q : Kt W c G H d Q) (g : GOk W G H) (j : W.J c H) (hp : H p = none) (n : NoTb o) (r : Rp (upd G p o) (.ref p) d) : Q (.ref p) (upd H p o) :=
  q (.ref p) _ _ (stp_new g hp) (gok_new g j hp n) (J_new j hp) r
theorem Kt.newT {Q : VK} {ds : List D} {xs : List V} {p : Addr} (q : Kt W c G H (.tup ds) Q) (g : GOk W G H) (j : W.J c H) (hp : H p = none) (r : RpL G xs ds) : Q (.ref p) (upd H p (.tup xs)) :=
  q.new g j hp (noTb_tup _) (.tup upd_same (r.mono (same_new (g.none hp) _)))
theorem Kt.newL {Q : VK} {ds : List D} {xs : List V} {p : Addr} (q : Kt W c G H (.lst ds) Q) (g : GOk W G H) (j : W.J c H) (hp : H p = none) (r : RpL G xs ds) : Q (.ref p) (upd H p (.lst xs)) :=
  q.new g j hp (noTb_lst _) (.lst upd_same (r.mono (same_new (g.none hp) _)))
theorem ed_op {env : Env'} {ta tb : TE} {r : R2} {d1 d2 d : D} (ha : ED W ta env d1) (hb : ED W tb env d2) (hr : RD2 W r d1 d2 d) : ED W (tOp r ta tb) env d := fun c G0 H0 σ G H A Q q =>
  ha c G0 H0 σ G H A _ fun v1 G1 H1 s1 g1 j1 r1 => hb c G0 H0 σ G1 H1 (A.step s1 g1 j1) _ fun v2 G2 H2 s2 g2 j2 r2 =>
    hr c G2 H2 v1 v2 g2 j2 (r1.mono s2.gg) r2 Q fun v G3 H3 s3 g3 j3 r3 => q v G3 H3 ((s1.trans s2).trans s3) g3 j3 r3
theorem en_op {env : Env'} {ta tb : TE} {r : R2} {P1 P2 P : D → Prop} {k1 k2 : Nat} (ha : EN W ta env c k1 P1) (hb : EN W tb env (c + k1) k2 P2) (hr : ∀ d1 d2, P1 d1 → P2 d2 → ∃ d, RD2 W r d1 d2 d ∧ P d) : EN W (tOp r ta tb) env c (k1 + k2) P := fun G0 H0 σ G H A Q q =>
  ha G0 H0 σ G H A _ fun v1 d1 G1 H1 s1 g1 j1 r1 p1 => hb G0 H0 σ G1 H1 (A.step s1 g1 j1) _ fun v2 d2 G2 H2 s2 g2 j2 r2 p2 => by
    obtain ⟨d, hd, pd⟩ := hr d1 d2 p1 p2
    exact hd (c + k1 + k2) G2 H2 v1 v2 g2 j2 (r1.mono s2.gg) r2 Q fun v G3 H3 s3 g3 j3 r3 => q v d G3 H3 ((s1.trans s2).trans s3) g3 (by rw [← Nat.add_assoc]; exact j3) r3 pd
theorem ed_un {env : Env'} {ta : TE} {r : V → Hp → VK → Prop} {d1 d : D} (ha : ED W ta env d1) (hr : RD1 W r d1 d) : ED W (tUn r ta) env d := fun c G0 H0 σ G H A Q q =>
  ha c G0 H0 σ G H A _ fun v1 G1 H1 s1 g1 j1 r1 => hr c G1 H1 v1 g1 j1 r1 Q fun v G3 H3 s3 g3 j3 r3 => q v G3 H3 (s1.trans s3) g3 j3 r3
theorem ed_CB {env : Env'} {ta : TA} {r : List V → Hp → VK → Prop} {ds : List D} {d : D} (ha : EA W ta env ds) (hr : RDL W r ds d) : ED W (tCB r ta) env d := fun c G0 H0 σ G H A Q q =>
  ha c G0 H0 σ G H A _ fun vs G1 H1 s1 g1 j1 r1 => hr c G1 H1 vs g1 j1 r1 Q fun v G3 H3 s3 g3 j3 r3 => q v G3 H3 (s1.trans s3) g3 j3 r3
theorem en_CB {env : Env'} {ta : TA} {r : List V → Hp → VK → Prop} {P : List D → Prop} {P' : D → Prop} (ha : EAN W ta env c k P) (hr : ∀ ds, P ds → ∃ d, RDL W r ds d ∧ P' d) : EN W (tCB r ta) env c k P' := fun G0 H0 σ G H A Q q =>
  ha G0 H0 σ G H A _ fun vs ds G1 H1 s1 g1 j1 r1 p1 => by
    obtain ⟨d, hd, pd⟩ := hr ds p1
    exact hd (c + k) G1 H1 vs g1 j1 r1 Q fun v G3 H3 s3 g3 j3 r3 => q v d G3 H3 (s1.trans s3) g3 j3 r3 pd
theorem rd_I0 {g : Int → Int → V} {i j : Int} {d : D} (h : ∀ G, Rp G (g i j) d) : RD2 W (rI0 g) (.int i) (.int j) d := fun c G H v1 v2 gk jk r1 r2 Q q => by
  cases r1; cases r2
  exact ⟨i, j, rfl, rfl, q.here gk jk (h G)⟩
theorem rd_I {C : Int → Int → Prop} {g : Int → Int → V} {i j : Int} {d : D} (hc : C i j) (h : ∀ G, Rp G (g i j) d) : RD2 W (rI C g) (.int i) (.int j) d := fun c G H v1 v2 gk jk r1 r2 Q q => by
  cases r1; cases r2
  exact ⟨i, j, rfl, rfl, hc, q.here gk jk (h G)⟩
theorem rd_inl {r r' : R2} {d1 d2 d : D} (h : RD2 W r d1 d2 d) : RD2 W (fun x y H Q => r x y H Q ∨ r' x y H Q) d1 d2 d := fun c G H v1 v2 gk jk r1 r2 Q q => .inl (h c G H v1 v2 gk jk r1 r2 Q q)
theorem rd_inr {r r' : R2} {d1 d2 d : D} (h : RD2 W r' d1 d2 d) : RD2 W (fun x y H Q => r x y H Q ∨ r' x y H Q) d1 d2 d := fun c G H v1 v2 gk jk r1 r2 Q q => .inr (h c G H v1 v2 gk jk r1 r2 Q q)
theorem rdl_inl {r r' : List V → Hp → VK → Prop} {ds : List D} {d : D} (h : RDL W r ds d) : RDL W (fun xs H Q => r xs H Q ∨ r' xs H Q) ds d := fun c G H vs gk jk r1 Q q => .inl (h c G H vs gk jk r1 Q q)
theorem rdl_inr {r r' : List V → Hp → VK → Prop} {ds : List D} {d : D} (h : RDL W r' ds d) : RDL W (fun xs H Q => r xs H Q ∨ r' xs H Q) ds d := fun c G H vs gk jk r1 Q q => .inr (h c G H vs gk jk r1 Q q)

/-! ### tests -/
theorem et_test {env : Env'} {te : TE} {b : Bool} (h : ED W te env (.bl b)) : ET W (tTest te) env b := fun c G0 H0 σ G H A Q q =>
  h c G0 H0 σ G H A _ fun v G1 H1 s g j r => by
    cases r
    exact ⟨b, rfl, q G1 H1 s g j⟩
theorem et_B {env : Env'} {te : TE} {b : Bool} (h : ED W te env (.bl b)) : ET W (tB te) env b := et_test h
theorem etn_test {env : Env'} {te : TE} {P : Bool → Prop} (h : EN W te env c k (fun d => ∃ b, d = .bl b ∧ P b)) : ETN W (tTest te) env c k P := fun G0 H0 σ G H A Q q =>
  h G0 H0 σ G H A _ fun v d G1 H1 s g j r p => by
    obtain ⟨b, rfl, pb⟩ := p
    cases r
    exact ⟨b, rfl, q b G1 H1 s g j pb⟩
theorem et_and {env : Env'} {t u : TT} {a b : Bool} (h1 : ET W t env a) (h2 : a = true → ET W u env b) : ET W (tAnd t u) env (a && b) := fun c G0 H0 σ G H A Q q =>
  h1 c G0 H0 σ G H A _ fun G1 H1 s1 g1 j1 => by
    cases a with
    | true => exact h2 rfl c G0 H0 σ G1 H1 (A.step s1 g1 j1) Q fun G2 H2 s2 g2 j2 => q G2 H2 (s1.trans s2) g2 j2
    | false => exact q G1 H1 s1 g1 j1
theorem et_or {env : Env'} {t u : TT} {a b : Bool} (h1 : ET W t env a) (h2 : a = false → ET W u env b) : ET W (tOr t u) env (a || b) := fun c G0 H0 σ G H A Q q =>
  h1 c G0 H0 σ G H A _ fun G1 H1 s1 g1 j1 => by
    cases a with
    | true => exact q G1 H1 s1 g1 j1
    | false => exact h2 rfl c G0 H0 σ G1 H1 (A.step s1 g1 j1) Q fun G2 H2 s2 g2 j2 => q G2 H2 (s1.trans s2) g2 j2
theorem et_not {env : Env'} {t : TT} {a : Bool} (h : ET W t env a) : ET W (tNot t) env (!a) := fun c G0 H0 σ G H A Q q => h c G0 H0 σ G H A _ q
theorem ed_andV {env : Env'} {ta tb : TE} {a b : Bool} (h1 : ED W ta env (.bl a)) (h2 : a = true → ED W tb env (.bl b)) : ED W (tAndV ta tb) env (.bl (a && b)) := fun c G0 H0 σ G H A Q q =>
  h1 c G0 H0 σ G H A _ fun v G1 H1 s1 g1 j1 r1 => by
    cases r1
    refine ⟨a, rfl, ?_⟩
    cases a with
    | true => exact h2 rfl c G0 H0 σ G1 H1 (A.step s1 g1 j1) Q fun v G2 H2 s2 g2 j2 r2 => q v G2 H2 (s1.trans s2) g2 j2 r2
    | false => exact q _ G1 H1 s1 g1 j1 (.bl _)
theorem ed_orV {env : Env'} {ta tb : TE} {a b : Bool} (h1 : ED W ta env (.bl a)) (h2 : a = false → ED W tb env (.bl b)) : ED W (tOrV ta tb) env (.bl (a || b)) := fun c G0 H0 σ G H A Q q =>
  h1 c G0 H0 σ G H A _ fun v G1 H1 s1 g1 j1 r1 => by
    cases r1
    refine ⟨a, rfl, ?_⟩
    cases a with
    | true => exact q _ G1 H1 s1 g1 j1 (.bl _)
    | false => exact h2 rfl c G0 H0 σ G1 H1 (A.step s1 g1 j1) Q fun v G2 H2 s2 g2 j2 r2 => q v G2 H2 (s1.trans s2) g2 j2 r2
theorem ed_notV {env : Env'} {ta : TE} {a : Bool} (h : ED W ta env (.bl a)) : ED W (tNotV ta) env (.bl (!a)) := fun c G0 H0 σ G H A Q q =>
  h c G0 H0 σ G H A _ fun v G1 H1 s1 g1 j1 r1 => by
    cases r1
    exact ⟨a, rfl, q _ G1 H1 s1 g1 j1 (.bl _)⟩
theorem ed_if {env : Env'} {t : TT} {ta tb : TE} {b : Bool} {d : D} (h : ET W t env b) (h1 : b = true → ED W ta env d) (h2 : b = false → ED W tb env d) : ED W (tIf t ta tb) env d := fun c G0 H0 σ G H A Q q =>
  h c G0 H0 σ G H A _ fun G1 H1 s1 g1 j1 => by
    cases b with
    | true => exact h1 rfl c G0 H0 σ G1 H1 (A.step s1 g1 j1) Q fun v G2 H2 s2 g2 j2 r2 => q v G2 H2 (s1.trans s2) g2 j2 r2
    | false => exact h2 rfl c G0 H0 σ G1 H1 (A.step s1 g1 j1) Q fun v G2 H2 s2 g2 j2 r2 => q v G2 H2 (s1.trans s2) g2 j2 r2

/-! ### what is walked -/
structure Its (W : Wld T) (J : It) (G1 : Hp) (items : List D) : Prop where
  go : ∀ (i : Nat) G2 H2, GOk W G2 H2 → Same G1 G2 → (∃ c, W.J c H2) → i < items.length → J.go i H2
  stop : ∀ (i : Nat) G2 H2, GOk W G2 H2 → Same G1 G2 → (∃ c, W.J c H2) → items.length ≤ i → J.stop i H2
  yld : ∀ (i : Nat) (d : D) c G2 H2 x H', GOk W G2 H2 → Same G1 G2 → W.J c H2 → items[i]? = some d → J.yld i H2 x H' → ∃ G', Stp W G2 H2 G' H' ∧ GOk W G' H' ∧ W.J c H' ∧ Rp G' x d
def Src (W : Wld T) (wi : TI) (env : Env') (items : List D) : Prop := ∀ c G0 H0 σ G H, At W G0 H0 c G H σ env → ∀ R : It → Hp → Prop,
  (∀ J G1 H1, Stp W G H G1 H1 → GOk W G1 H1 → W.J c H1 → Its W J G1 items → R J H1) → wi σ H R
def SrcN (W : Wld T) (wi : TI) (env : Env') (c k : Nat) (P : List D → Prop) : Prop := ∀ G0 H0 σ G H, At W G0 H0 c G H σ env → ∀ R : It → Hp → Prop,
  (∀ J G1 H1 items, Stp W G H G1 H1 → GOk W G1 H1 → W.J (c + k) H1 → P items → Its W J G1 items → R J H1) → wi σ H R
theorem Src.n {wi : TI} {env : Env'} {items : List D} (h : Src W wi env items) : SrcN W wi env c 0 (fun l => l = items) := fun G0 H0 σ G H A R q => h c G0 H0 σ G H A R fun J G1 H1 s g j i => q J G1 H1 items s g j rfl i
theorem its_list {K : PySem.W.Frag} {a : Addr} {xs : List V} {ds : List D} (h : G a = some (.lst xs)) (r : RpL G xs ds)
    : Its W (Itl K a) G ds := by
  refine ⟨fun i G2 H2 g e _ hi => ?_, fun i G2 H2 g e _ hi => ?_, fun i d c G2 H2 x H' g e j hd y => ?_⟩
  · have hi' : i < xs.length := by rw [r.len]; exact hi
    exact ⟨xs, xs[i], sqL_of g (e _ _ h), by simp [hi']⟩
  · exact ⟨xs, sqL_of g (e _ _ h), by rw [r.len]; exact hi⟩
  · obtain ⟨rfl, hy⟩ := y
    obtain ⟨v, e1, r1⟩ := r.get hd
    have := hy xs (sqL_of g (e _ _ h))
    rw [e1] at this
    cases this
    exact ⟨G2, Stp.refl, g, j, r1.mono e⟩
end
end Fx

set_option Elab.async false
set_option linter.all false
set_option maxRecDepth 100000
set_option maxHeartbeats 4000000
/-! Sources of loops, comprehensions, statements. -/
namespace Fx
open PySem PySem.Spec PyProof.Rows L2
section
variable {T : List (Addr × Str)} {W : Wld T} {G H G1 H1 G2 H2 H0 : Hp} {G0 : Hp × Hp} {c c' k : Nat} {K : PySem.W.Frag}
/-! ### sources -/
theorem its_tup {a : Addr} {xs : List V} {ds : List D} (h : G a = some (.tup xs)) (r : RpL G xs ds) : Its W (Itt K a) G ds := by
  refine ⟨fun i G2 H2 g e _ hi => ?_, fun i G2 H2 g e _ hi => ?_, fun i d c G2 H2 x H' g e j hd y => ?_⟩
  · have hi' : i < xs.length := by rw [r.len]; exact hi
    exact ⟨xs, xs[i], sqT_of g (e _ _ h), by simp [hi']⟩
  · exact ⟨xs, sqT_of g (e _ _ h), by rw [r.len]; exact hi⟩
  · obtain ⟨rfl, hy⟩ := y
    obtain ⟨v, e1, r1⟩ := r.get hd
    have := hy xs (sqT_of g (e _ _ h))
    rw [e1] at this
    cases this
    exact ⟨G2, Stp.refl, g, j, r1.mono e⟩
theorem its_range {lo : Int} {n : Nat} : Its W (Itr lo n) G ((List.range n).map fun (i : Nat) => .int (lo + i)) := by
  refine ⟨fun i G2 H2 g e _ hi => ?_, fun i G2 H2 g e _ hi => ?_, fun i d c G2 H2 x H' g e j hd y => ?_⟩
  · show i < n
    simpa using hi
  · show n ≤ i
    simpa using hi
  · obtain ⟨rfl, rfl⟩ := y
    rw [List.getElem?_map] at hd
    by_cases hi : i < n
    · rw [List.getElem?_range hi] at hd
      cases hd
      exact ⟨G2, Stp.refl, g, j, .int _⟩
    · rw [List.getElem?_eq_none (by simpa using hi)] at hd; cases hd
theorem its_enum {a : Addr} {xs : List V} {ds : List D} (h : G a = some (.lst xs)) (r : RpL G xs ds) : Its W (Ite K a) G (ds.zipIdx.map fun p => .tup [.int (p.2 : Nat), p.1]) := by
  refine ⟨fun i G2 H2 g e _ hi => ?_, fun i G2 H2 g e _ hi => ?_, fun i d c G2 H2 x H' g e j hd y => ?_⟩
  · have hi' : i < xs.length := by rw [r.len]; simpa using hi
    exact ⟨xs, xs[i], sqL_of g (e _ _ h), by simp [hi']⟩
  · exact ⟨xs, sqL_of g (e _ _ h), by rw [r.len]; simpa using hi⟩
  · obtain ⟨t, z, rfl, nt, rfl, hy⟩ := y
    rw [List.getElem?_map, List.getElem?_zipIdx] at hd
    cases hq : ds[i]? with
    | none => rw [hq] at hd; cases hd
    | some d0 =>
      rw [hq] at hd
      cases hd
      obtain ⟨v, e1, r1⟩ := r.get hq
      have := hy xs (sqL_of g (e _ _ h))
      rw [e1] at this
      cases this
      refine ⟨upd G2 t _, stp_new g nt, gok_new g j nt (noTb_tup _), J_new j nt, .tup upd_same ?_⟩
      have e2 : ((0 + i : Nat) : Int) = (i : Int) := by omega
      show RpL _ [V.int (i : Nat), z] [D.int ((0 + i : Nat) : Int), d0]
      rw [e2]
      exact .cons (.int _) (.cons ((r1.mono e).mono (same_new (g.none nt) _)) .nil)
theorem its_zipL {a b : Addr} {xs ys : List V} {ds es : List D} (h : G a = some (.lst xs)) (r : RpL G xs ds) (h' : G b = some (.lst ys)) (r' : RpL G ys es) : Its W (Itz K a b) G (List.zipWith (fun x y => .tup [x, y]) ds es) := by
  refine ⟨fun i G2 H2 g e _ hi => ?_, fun i G2 H2 g e _ hi => ?_, fun i d c G2 H2 x H' g e j hd y => ?_⟩
  · rw [List.length_zipWith] at hi
    have h1 : i < xs.length := by rw [r.len]; omega
    have h2 : i < ys.length := by rw [r'.len]; omega
    exact ⟨xs, ys, xs[i], ys[i], sqL_of g (e _ _ h), sqL_of g (e _ _ h'), by simp [h1], by simp [h2]⟩
  · rw [List.length_zipWith] at hi
    exact ⟨xs, ys, sqL_of g (e _ _ h), sqL_of g (e _ _ h'), by rw [r.len, r'.len]; omega⟩
  · obtain ⟨t, z, z', rfl, nt, rfl, hy, hy'⟩ := y
    rw [List.getElem?_zipWith] at hd
    cases hq : ds[i]? with
    | none => rw [hq] at hd; cases hd
    | some d0 =>
      cases hq' : es[i]? with
      | none => rw [hq, hq'] at hd; cases hd
      | some e0 =>
        rw [hq, hq'] at hd
        cases hd
        obtain ⟨v, e1, r1⟩ := r.get hq
        obtain ⟨v', e1', r1'⟩ := r'.get hq'
        have t1 := hy xs (sqL_of g (e _ _ h))
        have t2 := hy' ys (sqL_of g (e _ _ h'))
        rw [e1] at t1
        rw [e1'] at t2
        cases t1
        cases t2
        refine ⟨upd G2 t _, stp_new g nt, gok_new g j nt (noTb_tup _), J_new j nt, .tup upd_same ?_⟩
        have sn := same_new (g.none nt) (HO.tup [z, z'])
        exact .cons ((r1.mono e).mono sn) (.cons ((r1'.mono e).mono sn) .nil)
theorem its_zipT {a b : Addr} {xs ys : List V} {ds es : List D} (h : G a = some (.tup xs)) (r : RpL G xs ds) (h' : G b = some (.tup ys)) (r' : RpL G ys es) : Its W (RZ.ItzT K a b) G (List.zipWith (fun x y => .tup [x, y]) ds es) := by
  refine ⟨fun i G2 H2 g e _ hi => ?_, fun i G2 H2 g e _ hi => ?_, fun i d c G2 H2 x H' g e j hd y => ?_⟩
  · rw [List.length_zipWith] at hi
    have h1 : i < xs.length := by rw [r.len]; omega
    have h2 : i < ys.length := by rw [r'.len]; omega
    exact ⟨xs, ys, xs[i], ys[i], sqT_of g (e _ _ h), sqT_of g (e _ _ h'), by simp [h1], by simp [h2]⟩
  · rw [List.length_zipWith] at hi
    exact ⟨xs, ys, sqT_of g (e _ _ h), sqT_of g (e _ _ h'), by rw [r.len, r'.len]; omega⟩
  · obtain ⟨t, z, z', rfl, nt, rfl, hy, hy'⟩ := y
    rw [List.getElem?_zipWith] at hd
    cases hq : ds[i]? with
    | none => rw [hq] at hd; cases hd
    | some d0 =>
      cases hq' : es[i]? with
      | none => rw [hq, hq'] at hd; cases hd
      | some e0 =>
        rw [hq, hq'] at hd
        cases hd
        obtain ⟨v, e1, r1⟩ := r.get hq
        obtain ⟨v', e1', r1'⟩ := r'.get hq'
        have t1 := hy xs (sqT_of g (e _ _ h))
        have t2 := hy' ys (sqT_of g (e _ _ h'))
        rw [e1] at t1
        rw [e1'] at t2
        cases t1
        cases t2
        refine ⟨upd G2 t _, stp_new g nt, gok_new g j nt (noTb_tup _), J_new j nt, .tup upd_same ?_⟩
        have sn := same_new (g.none nt) (HO.tup [z, z'])
        exact .cons ((r1.mono e).mono sn) (.cons ((r1'.mono e).mono sn) .nil)
theorem src_list {tl : TE} {env : Env'} {ds : List D} (h : ED W tl env (.lst ds)) : Src W (iList K tl) env ds := fun c G0 H0 σ G H A R q =>
  h c G0 H0 σ G H A _ fun v G1 H1 s1 g1 j1 r1 => by
    cases r1 with
    | lst ha ra => exact ⟨_, rfl, ⟨_, sqL_of g1 ha⟩, q _ G1 H1 s1 g1 j1 (its_list ha ra)⟩
theorem src_tup {tl : TE} {env : Env'} {ds : List D} (h : ED W tl env (.tup ds)) : Src W (iTup K tl) env ds := fun c G0 H0 σ G H A R q =>
  h c G0 H0 σ G H A _ fun v G1 H1 s1 g1 j1 r1 => by
    cases r1 with
    | tup ha ra => exact ⟨_, rfl, ⟨_, sqT_of g1 ha⟩, q _ G1 H1 s1 g1 j1 (its_tup ha ra)⟩
/-- a list or a tuple -/
def iSeq (K : PySem.W.Frag) (tl : TE) : TI := fun σ H R => iList K tl σ H R ∨ iTup K tl σ H R
theorem pi_seq {X : Cx} {tg l : Expr} {tl : TE} (hl : PE X l tl) : PI X tg l (iSeq X.K tl) := ⟨fun pins s σ H R I h => h.elim (fun h => (pi_list hl).run pins s σ H R I h) fun h => (pi_tup hl).run pins s σ H R I h⟩
theorem src_seqL {tl : TE} {env : Env'} {ds : List D} (h : ED W tl env (.lst ds)) : Src W (iSeq K tl) env ds := fun c G0 H0 σ G H A R q => .inl (src_list h c G0 H0 σ G H A R q)
theorem src_seqT {tl : TE} {env : Env'} {ds : List D} (h : ED W tl env (.tup ds)) : Src W (iSeq K tl) env ds := fun c G0 H0 σ G H A R q => .inr (src_tup h c G0 H0 σ G H A R q)
theorem src_range1 {ta : TA} {env : Env'} {n : Int} (h : EA W ta env [.int n]) (hn : -(2 ^ 62) ≤ n ∧ n < 2 ^ 62) : Src W (iRng1 ta) env ((List.range n.toNat).map fun (i : Nat) => .int i) := fun c G0 H0 σ G H A R q =>
  h c G0 H0 σ G H A _ fun v G1 H1 s1 g1 j1 r1 => by
    cases r1 with
    | cons h1 h2 =>
      cases h1
      cases h2
      refine ⟨n, rfl, hn.1, hn.2, q _ G1 H1 s1 g1 j1 ?_⟩
      have e := its_range (W := W) (G := G1) (lo := 0) (n := n.toNat)
      have e2 : (fun (i : Nat) => D.int ((0 : Int) + i)) = fun (i : Nat) => D.int i := by
        funext i
        rw [Int.zero_add]
      rw [e2] at e
      exact e
theorem src_range2 {ta : TA} {env : Env'} {m n : Int} (h : EA W ta env [.int m, .int n]) (hn : -(2 ^ 62) ≤ m ∧ m < 2 ^ 62 ∧ -(2 ^ 62) ≤ n ∧ n < 2 ^ 62) : Src W (iRng2 ta) env ((List.range (n - m).toNat).map fun (i : Nat) => .int (m + i)) := fun c G0 H0 σ G H A R q =>
  h c G0 H0 σ G H A _ fun v G1 H1 s1 g1 j1 r1 => by
    cases r1 with
    | cons h1 h2 =>
      cases h1
      cases h2 with
      | cons h1 h2 =>
        cases h1
        cases h2
        exact ⟨m, n, rfl, hn, q _ G1 H1 s1 g1 j1 its_range⟩
theorem srcN_range1 {ta : TA} {env : Env'} {P : Int → Prop} (h : EAN W ta env c k (fun ds => ∃ n, ds = [.int n] ∧ P n)) (hn : ∀ n, P n → -(2 ^ 62) ≤ n ∧ n < 2 ^ 62) : SrcN W (iRng1 ta) env c k (fun l => ∃ n : Int, P n ∧ l = (List.range n.toNat).map fun (i : Nat) => .int i) := fun G0 H0 σ G H A R q =>
  h G0 H0 σ G H A _ fun v ds G1 H1 s1 g1 j1 r1 p => by
    obtain ⟨n, rfl, pn⟩ := p
    cases r1 with
    | cons h1 h2 =>
      cases h1
      cases h2
      refine ⟨n, rfl, (hn n pn).1, (hn n pn).2, q _ G1 H1 _ s1 g1 j1 ⟨n, pn, rfl⟩ ?_⟩
      have e := its_range (W := W) (G := G1) (lo := 0) (n := n.toNat)
      have e2 : (fun (i : Nat) => D.int ((0 : Int) + i)) = fun (i : Nat) => D.int i := by
        funext i
        rw [Int.zero_add]
      rw [e2] at e
      exact e
theorem src_enum {ta : TA} {env : Env'} {ds : List D} (h : EA W ta env [.lst ds]) : Src W (iEnum K ta) env (ds.zipIdx.map fun p => .tup [.int (p.2 : Nat), p.1]) := fun c G0 H0 σ G H A R q =>
  h c G0 H0 σ G H A _ fun v G1 H1 s1 g1 j1 r1 => by
    cases r1 with
    | cons h1 h2 =>
      cases h2
      cases h1 with
      | lst ha ra => exact ⟨_, _, rfl, sqL_of g1 ha, q _ G1 H1 s1 g1 j1 (its_enum ha ra)⟩
theorem src_zipT {ta : TA} {env : Env'} {ds es : List D} (h : EA W ta env [.tup ds, .tup es]) : Src W (RZ.iZipA K ta) env (List.zipWith (fun x y => .tup [x, y]) ds es) := fun c G0 H0 σ G H A R q =>
  h c G0 H0 σ G H A _ fun v G1 H1 s1 g1 j1 r1 => by
    cases r1 with
    | cons h1 h2 =>
      cases h2 with
      | cons h2 h3 =>
        cases h3
        cases h1 with
        | tup ha ra =>
          cases h2 with
          | tup hb rb => exact ⟨_, _, _, _, rfl, .inr ⟨sqT_of g1 ha, sqT_of g1 hb, q _ G1 H1 s1 g1 j1 (its_zipT ha ra hb rb)⟩⟩
/-! ### targets -/
def TgOk (W : Wld T) (g : TG) (d : D) (env env' : Env') : Prop := ∀ c G0 H0 σ G H v, At W G0 H0 c G H σ env → Rp G v d → ∀ Q : L2.St → Hp → Prop, (∀ σ', At W G0 H0 c G H σ' env' → Q σ' H) → g v σ H Q
def TgC (W : Wld T) (g : TG) (vs : List Nat) (d : D) (env env' : Env') : Prop := ∀ c G0 H0 σ G H v, At W G0 H0 c G H σ env → Rp G v d → ∀ Q : L2.St → Hp → Prop, (∀ σ', wipe σ' vs = wipe σ vs → At W G0 H0 c G H σ' env' → Q σ' H) → g v σ H Q
theorem tg_name {d : D} {env : Env'} {j : Nat} : TgOk W (gName j) d env (env.set j (.dat d)) := fun c G0 H0 σ G H v A r Q q => q _ (A.setD j r)
theorem tgc_name {d : D} {env : Env'} {j : Nat} {vs : List Nat} (hj : j ∈ vs) : TgC W (gName j) vs d env (env.set j (.dat d)) := fun c G0 H0 σ G H v A r Q q => q _ (wipe_set hj) (A.setD j r)
theorem tg_tup2 {d1 d2 : D} {env : Env'} {i j : Nat} : TgOk W (gTup K 2 (gCons (gName i) (gCons (gName j) gNil))) (.tup [d1, d2]) env ((env.set i (.dat d1)).set j (.dat d2)) := fun c G0 H0 σ G H v A r Q q => by
  cases r with
  | tup ha ra =>
    cases ra with
    | cons r1 ra =>
      cases ra with
      | cons r2 ra =>
        cases ra
        exact ⟨_, _, rfl, sqT_of A.gok ha, rfl, _, _, rfl, _, _, rfl, rfl, q _ ((A.setD i r1).setD j r2)⟩
theorem tgc_tup2 {d1 d2 : D} {env : Env'} {i j : Nat} {vs : List Nat} (hi : i ∈ vs) (hj : j ∈ vs) : TgC W (gTup K 2 (gCons (gName i) (gCons (gName j) gNil))) vs (.tup [d1, d2]) env ((env.set i (.dat d1)).set j (.dat d2)) := fun c G0 H0 σ G H v A r Q q => by
  cases r with
  | tup ha ra =>
    cases ra with
    | cons r1 ra =>
      cases ra with
      | cons r2 ra =>
        cases ra
        exact ⟨_, _, rfl, sqT_of A.gok ha, rfl, _, _, rfl, _, _, rfl, rfl, q _ ((wipe_set hj).trans (wipe_set hi)) ((A.setD i r1).setD j r2)⟩

/-! ### what is written beside the still part -/
theorem stp_upd {l : Addr} {o : HO} (s : Stp W G H G1 H1) (h : Nf H l) (n : NoTb o) : Stp W G H G1 (upd H1 l o) := ⟨s.gg, fun a u e m k => by
    have ne : a ≠ l := by
      rintro rfl
      exact h u e k
    rw [upd_ne ne]
    exact s.hh a u e m k, s.fr, fun a e => by
    by_cases z : a = l
    · rw [z]; exact h
    · unfold Nf at e; rw [upd_ne z] at e; exact s.dom a e⟩
theorem gok_upd {l : Addr} {o : HO} (g : GOk W G H) (h : G l = none) : GOk W G (upd H l o) := fun a u e => by
  have n : a ≠ l := ne_of_none e h
  rw [upd_ne n]
  exact g a u e
/-- a finished list stands still from now on -/
theorem stp_frz {l : Addr} {o : HO} (s : Stp W G H G1 H1) (h : Nf H l) (g : G1 l = none) : Stp W G H (upd G1 l o) H1 := ⟨s.gg.trans (same_new g o), s.hh, fun a e => by
    by_cases z : a = l
    · rw [z]; exact .inr h
    · rw [upd_ne z] at e; exact s.fr a e, s.dom⟩
theorem gok_frz {l : Addr} {o : HO} (g : GOk W G H) (h : H l = some o) (n : NoTb o) (m : ¬ W.M l) : GOk W (upd G l o) H := fun a u e => by
  by_cases z : a = l
  · subst z
    rw [upd_same] at e
    cases e
    exact ⟨h, n, m⟩
  · rw [upd_ne z] at e
    exact g a u e
theorem Stp.gone {l : Addr} {o : HO} (s : Stp W G H G1 H1) (g : G l = none) (h : H l = some o) (n : NoTb o) : G1 l = none := by
  cases q : G1 l with
  | none => rfl
  | some u =>
    rcases s.fr l (by rw [q]; simp) with z | z
    · exact absurd g z
    · exact absurd z (nf_no h n)

/-! ### comprehensions -/
/-- a fresh list is made, held by nobody else -/
def MN (W : Wld T) (te : TE) (env : Env') (c k : Nat) (P : List D → Prop) : Prop := ∀ G0 H0 σ G H, At W G0 H0 c G H σ env → ∀ Q : VK,
  (∀ p xs ds G2 H2, Stp W G H G2 H2 → GOk W G2 H2 → W.J (c + k) H2 → H2 p = some (.lst xs) → G2 p = none → Nf H p → ¬ W.M p → RpL G2 xs ds → P ds → Q (.ref p) H2) → te σ H Q
theorem MN.en {te : TE} {env : Env'} {P : List D → Prop} {P' : D → Prop} (h : MN W te env c k P) (hp : ∀ ds, P ds → P' (.lst ds)) : EN W te env c k P' := fun G0 H0 σ G H A Q q =>
  h G0 H0 σ G H A Q fun p xs ds G2 H2 s g j hp2 gp nf m r pd => q (.ref p) (.lst ds) (upd G2 p (.lst xs)) H2 (stp_frz s nf gp) (gok_frz g hp2 (noTb_lst _) m) j (.lst upd_same (r.mono (same_new gp _))) (hp ds pd)
theorem mn_lc {wi : TI} {tg : TG} {tt : TT} {te : TE} {vs : List Nat} {env : Env'} {k0 kt ke n : Nat} {P0 : List D → Prop} (envT : D → Env') (Pt : Nat → D → Bool → Prop) (Pe : Nat → D → D → Prop)
    (hs : SrcN W wi env c k0 P0) (hn : ∀ l, P0 l → l.length ≤ n) (hn2 : n ≤ 100000)
    (htg : ∀ l, P0 l → ∀ d ∈ l, TgC W tg vs d (wipeE env vs) (envT d)) (ht : ∀ l, P0 l → ∀ (i : Nat) (d : D), l[i]? = some d → ∀ c', c' + (kt + ke) ≤ c + (k0 + (kt + ke) * n) → ETN W tt (envT d) c' kt (Pt i d))
    (he : ∀ l, P0 l → ∀ (i : Nat) (d : D), l[i]? = some d → ∀ c', c' + ke ≤ c + (k0 + (kt + ke) * n) → Pt i d true → EN W te (envT d) c' ke (Pe i d)) :
    MN W (tLc wi tg tt te vs) env c (k0 + (kt + ke) * n) (fun ds => ∃ (l : List D) (os : List (Option D)), P0 l ∧ os.length = l.length ∧ (∀ (i : Nat) (x : D) (o : Option D), l[i]? = some x → os[i]? = some o → (o = none ∧ Pt i x false) ∨ ∃ y, o = some y ∧ Pt i x true ∧ Pe i x y) ∧ ds = os.filterMap id) := by
  intro G0 H0 σ G H A Q q
  refine hs G0 H0 σ G H A _ fun J G1 H1 l s1 g1 j1 p0 its => ?_
  intro Dl hD
  have gD : G1 Dl = none := g1.none hD
  have mD : ¬ W.M Dl := fun m => W.mtr j1 m (nf_none hD)
  have nD := nf_none hD
  have hln := hn l p0
  refine ⟨fun i m H' => m = l.length - i ∧ i ≤ l.length ∧ ∃ (G' : Hp) (acc : List V) (os : List (Option D)), Stp W G1 H1 G' H' ∧ GOk W G' H' ∧ W.J (c + k0 + (kt + ke) * i) H' ∧ H' Dl = some (.lst acc) ∧ G' Dl = none ∧ RpL G' acc (os.filterMap id) ∧ os.length = i ∧
    (∀ (i : Nat) (x : D) (o : Option D), l[i]? = some x → os[i]? = some o → (o = none ∧ Pt i x false) ∨ ∃ y, o = some y ∧ Pt i x true ∧ Pe i x y), ⟨l.length, by simp, Nat.zero_le _, G1, [], [], stp_upd Stp.refl nD (noTb_lst _), gok_upd g1 gD, J_new j1 hD, upd_same, gD, .nil, rfl, fun i x o _ z => by simp at z⟩, ?_⟩
  rintro i m H' ⟨rfl, hi, G', acc, os, s', g', j', hDl, gDl, rA, ol, oR⟩
  by_cases hlt : i < l.length
  · refine .inr ⟨its.go i G' H' g' s'.gg ⟨_, j'⟩ hlt, fun H'' => i + 1 ≤ l.length ∧ ∃ (G' : Hp) (acc : List V) (os : List (Option D)), Stp W G1 H1 G' H'' ∧ GOk W G' H'' ∧ W.J (c + k0 + (kt + ke) * (i + 1)) H'' ∧ H'' Dl = some (.lst acc) ∧ G' Dl = none ∧ RpL G' acc (os.filterMap id) ∧ os.length = i + 1 ∧
      (∀ (i : Nat) (x : D) (o : Option D), l[i]? = some x → os[i]? = some o → (o = none ∧ Pt i x false) ∨ ∃ y, o = some y ∧ Pt i x true ∧ Pe i x y), fun H'' h => ⟨l.length - (i + 1), by omega, rfl, h⟩, fun x H2 hy => ?_⟩
    have hx : l[i]? = some l[i] := List.getElem?_eq_getElem hlt
    obtain ⟨G2, s2, g2, j2, r2⟩ := its.yld i l[i] _ G' H' x H2 g' s'.gg j' hx hy
    have hmem : l[i] ∈ l := List.getElem_mem hlt
    have mul1 : (kt + ke) * (i + 1) ≤ (kt + ke) * n := Nat.mul_le_mul_left _ (by omega)
    have mul2 : (kt + ke) * (i + 1) = (kt + ke) * i + (kt + ke) := Nat.mul_succ _ _
    have A2 := ((A.step s1 g1 j1).step (s'.trans s2) g2 j2).wipe vs
    refine htg l p0 _ hmem _ _ _ _ _ _ x A2 r2 _ fun σ3 w3 A3 => ⟨w3.trans wipe_wipe, ?_⟩
    refine ht l p0 _ _ hx _ (by omega) _ _ _ _ _ A3 _ fun b G3 H3 s3 g3 j3 pb => ?_
    have s13 := (s'.trans s2).trans s3
    have d2 := s2.hh Dl _ hDl mD (noTb_lst _)
    have d3 := s3.hh Dl _ d2 mD (noTb_lst _)
    have n2 := s2.gone gDl hDl (noTb_lst _)
    have n3 := s3.gone n2 d2 (noTb_lst _)
    have rA3 := (rA.mono s2.gg).mono s3.gg
    cases b with
    | false =>
      refine (if_neg Bool.false_ne_true).mpr ?_
      refine ⟨hlt, G3, acc, os ++ [none], s13, g3, W.mono (by omega) j3, d3, n3, by rw [List.filterMap_append]; simpa using rA3, by simp [ol], fun k y o h1 h2 => ?_⟩
      by_cases hk : k < i
      · rw [List.getElem?_append_left (by omega)] at h2
        exact oR k y o h1 h2
      · by_cases hk2 : k = i
        · subst hk2
          rw [List.getElem?_append_right (by omega), ol, Nat.sub_self] at h2
          cases h2
          rw [hx] at h1
          cases h1
          exact .inl ⟨rfl, pb⟩
        · rw [List.getElem?_eq_none (by simp; omega)] at h2; cases h2
    | true =>
      refine (if_pos rfl).mpr ?_
      refine he l p0 _ _ hx _ (by omega) pb _ _ _ _ _ (A3.step s3 g3 j3) _ fun y e G4 H4 s4 g4 j4 r4 pe => ?_
      have d4 := s4.hh Dl _ d3 mD (noTb_lst _)
      have n4 := s4.gone n3 d3 (noTb_lst _)
      refine ⟨acc, d4, ?_, hlt, G4, acc ++ [y], os ++ [some e], stp_upd (s13.trans s4) nD (noTb_lst _), gok_upd g4 n4, ?_, upd_same, n4, ?_, by simp [ol], fun k y o h1 h2 => ?_⟩
      · have := rA.len
        have h3 := List.length_filterMap_le id os
        exact Nat.lt_of_lt_of_le (Nat.lt_succ_of_le (by omega : acc.length ≤ 100000)) (by decide)
      · exact W.updl (W.mono (by omega) j4) mD d4
      · rw [List.filterMap_append]
        exact (rA3.mono s4.gg).app (.cons r4 .nil)
      · by_cases hk : k < i
        · rw [List.getElem?_append_left (by omega)] at h2
          exact oR k y o h1 h2
        · by_cases hk2 : k = i
          · subst hk2
            rw [List.getElem?_append_right (by omega), ol, Nat.sub_self] at h2
            cases h2
            rw [hx] at h1
            cases h1
            exact .inr ⟨_, rfl, pb, pe⟩
          · rw [List.getElem?_eq_none (by simp; omega)] at h2; cases h2
  · have e : i = l.length := by omega
    subst e
    refine .inl ⟨its.stop _ G' H' g' s'.gg ⟨_, j'⟩ (Nat.le_refl _), ?_⟩
    have hDn : Nf H Dl := s1.dom Dl nD
    have mul1 : (kt + ke) * l.length ≤ (kt + ke) * n := Nat.mul_le_mul_left _ hln
    exact q Dl acc _ G' H' (s1.trans s') g' (W.mono (by omega) j') hDl gDl hDn mD rA ⟨l, os, p0, ol, oR, rfl⟩
theorem en_lc {wi : TI} {tg : TG} {tt : TT} {te : TE} {vs : List Nat} {env : Env'} {k0 kt ke n : Nat} {P0 : List D → Prop} (envT : D → Env') (Pt : Nat → D → Bool → Prop) (Pe : Nat → D → D → Prop)
    (hs : SrcN W wi env c k0 P0) (hn : ∀ l, P0 l → l.length ≤ n) (hn2 : n ≤ 100000)
    (htg : ∀ l, P0 l → ∀ d ∈ l, TgC W tg vs d (wipeE env vs) (envT d)) (ht : ∀ l, P0 l → ∀ (i : Nat) (d : D), l[i]? = some d → ∀ c', c' + (kt + ke) ≤ c + (k0 + (kt + ke) * n) → ETN W tt (envT d) c' kt (Pt i d))
    (he : ∀ l, P0 l → ∀ (i : Nat) (d : D), l[i]? = some d → ∀ c', c' + ke ≤ c + (k0 + (kt + ke) * n) → Pt i d true → EN W te (envT d) c' ke (Pe i d)) :
    EN W (tLc wi tg tt te vs) env c (k0 + (kt + ke) * n) (fun d => ∃ (l : List D) (os : List (Option D)), P0 l ∧ os.length = l.length ∧ (∀ (i : Nat) (x : D) (o : Option D), l[i]? = some x → os[i]? = some o → (o = none ∧ Pt i x false) ∨ ∃ y, o = some y ∧ Pt i x true ∧ Pe i x y) ∧ d = .lst (os.filterMap id)) := MN.en (mn_lc envT Pt Pe hs hn hn2 htg ht he) fun ds ⟨l, os, h1, h2, h3, h4⟩ => ⟨l, os, h1, h2, h3, congrArg D.lst h4⟩
/-- the same where all is decided -/
theorem ed_lc {α : Type} (xs : List α) (emb : α → D) (envT : D → Env') (f : α → Bool) (g : α → D) {wi : TI} {tg : TG} {tt : TT} {te : TE} {vs : List Nat} {env : Env'} (hs : Src W wi env (xs.map emb)) (hz : xs.length ≤ 100000)
    (htg : ∀ x ∈ xs, TgC W tg vs (emb x) (wipeE env vs) (envT (emb x))) (ht : ∀ x ∈ xs, ET W tt (envT (emb x)) (f x)) (he : ∀ x ∈ xs, f x = true → ED W te (envT (emb x)) (g x)) :
    ED W (tLc wi tg tt te vs) env (.lst ((xs.filter f).map g)) := by
  refine EN.det fun c => ?_
  refine EN.imp (en_lc (c := c) (n := xs.length) (k0 := 0) (kt := 0) (ke := 0) envT (fun i _ b => ∃ x, xs[i]? = some x ∧ b = f x) (fun i _ e => ∃ x, xs[i]? = some x ∧ e = g x) hs.n (fun l h => by rw [h]; simp) hz (fun l h d hd => ?_) (fun l h i d hd c' _ => ?_) fun l h i d hd c' _ pt => ?_) (by simp) fun d h => ?_
  · rw [h] at hd
    obtain ⟨x, hx, rfl⟩ := List.mem_map.mp hd
    exact htg x hx
  · rw [h, List.getElem?_map] at hd
    cases e : xs[i]? with
    | none => rw [e] at hd; cases hd
    | some x =>
      rw [e] at hd
      cases hd
      intro G0 H0 σ G H A Q q
      exact ht x (List.mem_of_getElem? e) c' G0 H0 σ G H A Q fun G2 H2 s g j => q _ G2 H2 s g j ⟨x, rfl, rfl⟩
  · rw [h, List.getElem?_map] at hd
    obtain ⟨x, e, fx⟩ := pt
    rw [e] at hd
    cases hd
    intro G0 H0 σ G H A Q q
    exact he x (List.mem_of_getElem? e) fx.symm c' G0 H0 σ G H A Q fun v G2 H2 s g j r => q v _ G2 H2 s g j r ⟨x, e, rfl⟩
  · obtain ⟨l, os, rfl, ol, oR, rfl⟩ := h
    have e : os = xs.map fun x => if f x = true then some (g x) else none := by
      apply List.ext_getElem?
      intro i
      rw [List.getElem?_map]
      cases ex : xs[i]? with
      | none =>
        have := List.getElem?_eq_none_iff.mp ex
        rw [List.getElem?_eq_none (by rw [ol, List.length_map]; exact this)]
        rfl
      | some x =>
        have hi := (List.getElem?_eq_some_iff.mp ex).1
        have hi2 : i < os.length := by rw [ol, List.length_map]; exact hi
        rw [List.getElem?_eq_getElem hi2]
        have h2 := oR i (emb x) os[i] (by rw [List.getElem?_map, ex]; rfl) (List.getElem?_eq_getElem hi2)
        rw [ex] at h2
        rcases h2 with ⟨e1, y, e2, e3⟩ | ⟨y, e1, ⟨z, e2, e3⟩, w, e4, e5⟩
        · cases e2
          rw [e1]
          show some none = some (if f x = true then some (g x) else none)
          rw [← e3, if_neg Bool.false_ne_true]
        · cases e2
          cases e4
          rw [e1, e5]
          show some (some (g x)) = some (if f x = true then some (g x) else none)
          rw [← e3, if_pos rfl]
    rw [e]
    congr 1
    clear e ol oR hs hz htg ht he os c
    induction xs with
    | nil => rfl
    | cons x r ih =>
      rw [List.map_cons, List.filterMap_cons, List.filter_cons]
      by_cases hf : f x = true
      · rw [if_pos hf, if_pos hf, List.map_cons, ← ih]
        rfl
      · rw [if_neg hf, if_neg hf, ← ih]
        rfl
end
end Fx

set_option Elab.async false
set_option linter.all false
set_option maxRecDepth 100000
set_option maxHeartbeats 4000000
/-! Statements, defs. -/
namespace Fx
open PySem PySem.Spec PyProof.Rows L2
section
variable {T : List (Addr × Str)} {W : Wld T} {G H G1 H1 G2 H2 H0 : Hp} {G0 : Hp × Hp} {c c' k : Nat} {K : PySem.W.Frag}
structure Po where
  nx : Env' → Nat → Prop
  rt : D → Nat → Prop
  bk : Env' → Nat → Prop := fun _ _ => False
  ct : Env' → Nat → Prop := fun _ _ => False
structure Fits (W : Wld T) (G0 : Hp × Hp) (H0 : Hp) (po : Po) (E : Ends) : Prop where
  nx : ∀ σ2 env2 c2 G2 H2, At W G0 H0 c2 G2 H2 σ2 env2 → po.nx env2 c2 → E.nx σ2 H2
  rt : ∀ v d c2 G2 H2, Stp W G0.2 H0 G2 H2 → GOk W G2 H2 → W.J c2 H2 → Rp G2 v d → po.rt d c2 → E.rt v H2
  bk : ∀ σ2 env2 c2 G2 H2, At W G0 H0 c2 G2 H2 σ2 env2 → po.bk env2 c2 → E.bk σ2 H2
  ct : ∀ σ2 env2 c2 G2 H2, At W G0 H0 c2 G2 H2 σ2 env2 → po.ct env2 c2 → E.ct σ2 H2
def Tr (W : Wld T) (ts : TS) (env : Env') (c : Nat) (po : Po) : Prop := ∀ G0 H0 σ G H, At W G0 H0 c G H σ env → ∀ E : Ends, Fits W G0 H0 po E → ts E σ H

theorem tr_seq {t u : TS} {env : Env'} {po : Po} (R : Env' → Nat → Prop) (h : Tr W t env c { po with nx := R }) (k : ∀ env2 c2, R env2 c2 → Tr W u env2 c2 po) : Tr W (tSeq t u) env c po := fun G0 H0 σ G H A E F =>
  h G0 H0 σ G H A { E with nx := u E } ⟨fun σ2 env2 c2 G2 H2 A2 r => k env2 c2 r G0 H0 σ2 G2 H2 A2 E F, F.rt, F.bk, F.ct⟩
theorem tr_next {env : Env'} {po : Po} (h : po.nx env c) : Tr W tNext env c po := fun G0 H0 σ G H A E F => F.nx _ _ _ _ _ A h
theorem tr_break {env : Env'} {po : Po} (h : po.bk env c) : Tr W tBreak env c po := fun G0 H0 σ G H A E F => F.bk _ _ _ _ _ A h
theorem tr_cont {env : Env'} {po : Po} (h : po.ct env c) : Tr W tCont env c po := fun G0 H0 σ G H A E F => F.ct _ _ _ _ _ A h
/-- x = e -/
theorem tr_set1 {te : TE} {env : Env'} {po : Po} {i : Nat} {d : D} (h : ED W te env d) (k : po.nx (env.set i (.dat d)) c) : Tr W (tAsg te (gName i)) env c po := fun G0 H0 σ G H A E F =>
  h c G0 H0 σ G H A _ fun v G1 H1 s1 g1 j1 r1 => F.nx _ _ _ _ _ ((A.step s1 g1 j1).setD i r1) k
theorem tr_set {te : TE} {u : TS} {env : Env'} {po : Po} {i : Nat} {d : D} (h : ED W te env d) (k : Tr W u (env.set i (.dat d)) c po) : Tr W (tSeq (tAsg te (gName i)) u) env c po := fun G0 H0 σ G H A E F =>
  h c G0 H0 σ G H A _ fun v G1 H1 s1 g1 j1 r1 => k _ _ _ _ _ ((A.step s1 g1 j1).setD i r1) E F
theorem tr_setN1 {te : TE} {env : Env'} {po : Po} {i n : Nat} {P : D → Prop} (h : EN W te env c n P) (k : ∀ d, P d → po.nx (env.set i (.dat d)) (c + n)) : Tr W (tAsg te (gName i)) env c po := fun G0 H0 σ G H A E F =>
  h G0 H0 σ G H A _ fun v d G1 H1 s1 g1 j1 r1 p => F.nx _ _ _ _ _ ((A.step s1 g1 j1).setD i r1) (k d p)
theorem tr_setN {te : TE} {u : TS} {env : Env'} {po : Po} {i n : Nat} {P : D → Prop} (h : EN W te env c n P) (k : ∀ d, P d → Tr W u (env.set i (.dat d)) (c + n) po) : Tr W (tSeq (tAsg te (gName i)) u) env c po := fun G0 H0 σ G H A E F =>
  h G0 H0 σ G H A _ fun v d G1 H1 s1 g1 j1 r1 p => k d p _ _ _ _ _ ((A.step s1 g1 j1).setD i r1) E F
/-- any target -/
theorem tr_tgN {te : TE} {u : TS} {env : Env'} {po : Po} {n : Nat} {P : D → Prop} {g : TG} (h : EN W te env c n P) (k : ∀ d, P d → ∃ env2, TgOk W g d env env2 ∧ Tr W u env2 (c + n) po) : Tr W (tSeq (tAsg te g) u) env c po := fun G0 H0 σ G H A E F =>
  h G0 H0 σ G H A _ fun v d G1 H1 s1 g1 j1 r1 p => by
    obtain ⟨env2, tg, t⟩ := k d p
    exact tg _ _ _ _ _ _ _ (A.step s1 g1 j1) r1 _ fun σ' A' => t _ _ _ _ _ A' E F
theorem tr_tg {te : TE} {u : TS} {env env2 : Env'} {po : Po} {d : D} {g : TG} (h : ED W te env d) (tg : TgOk W g d env env2) (k : Tr W u env2 c po) : Tr W (tSeq (tAsg te g) u) env c po := fun G0 H0 σ G H A E F =>
  h c G0 H0 σ G H A _ fun v G1 H1 s1 g1 j1 r1 => tg _ _ _ _ _ _ _ (A.step s1 g1 j1) r1 _ fun σ' A' => k _ _ _ _ _ A' E F
/-- x, y = e1, e2 -/
theorem tr_par {ta : TA} {u : TS} {env : Env'} {po : Po} {i j : Nat} {d1 d2 : D} (h : EA W ta env [d1, d2]) (k : Tr W u ((env.set i (.dat d1)).set j (.dat d2)) c po) : Tr W (tSeq (tPar i j ta) u) env c po := fun G0 H0 σ G H A E F =>
  h c G0 H0 σ G H A _ fun vs G1 H1 s1 g1 j1 r1 => by
    cases r1 with
    | cons r1 r2 =>
      cases r2 with
      | cons r2 r3 =>
        cases r3
        exact ⟨_, _, rfl, k _ _ _ _ _ (((A.step s1 g1 j1).setD i r1).setD j r2) E F⟩
theorem tr_parN {ta : TA} {u : TS} {env : Env'} {po : Po} {i j n : Nat} {P : List D → Prop} (h : EAN W ta env c n P) (k : ∀ l, P l → ∃ d1 d2, l = [d1, d2] ∧ Tr W u ((env.set i (.dat d1)).set j (.dat d2)) (c + n) po) : Tr W (tSeq (tPar i j ta) u) env c po := fun G0 H0 σ G H A E F =>
  h G0 H0 σ G H A _ fun vs l G1 H1 s1 g1 j1 r1 p => by
    obtain ⟨d1, d2, rfl, t⟩ := k l p
    cases r1 with
    | cons r1 r2 =>
      cases r2 with
      | cons r2 r3 =>
        cases r3
        exact ⟨_, _, rfl, t _ _ _ _ _ (((A.step s1 g1 j1).setD i r1).setD j r2) E F⟩
theorem tr_par3N {ta : TA} {u : TS} {env : Env'} {po : Po} {i j m n : Nat} {P : List D → Prop} (h : EAN W ta env c n P) (k : ∀ l, P l → ∃ d1 d2 d3, l = [d1, d2, d3] ∧ Tr W u (((env.set i (.dat d1)).set j (.dat d2)).set m (.dat d3)) (c + n) po) : Tr W (tSeq (tPar3 i j m ta) u) env c po := fun G0 H0 σ G H A E F =>
  h G0 H0 σ G H A _ fun vs l G1 H1 s1 g1 j1 r1 p => by
    obtain ⟨d1, d2, d3, rfl, t⟩ := k l p
    cases r1 with
    | cons r1 r2 =>
      cases r2 with
      | cons r2 r3 =>
        cases r3 with
        | cons r3 r4 =>
          cases r4
          exact ⟨_, _, _, rfl, t _ _ _ _ _ ((((A.step s1 g1 j1).setD i r1).setD j r2).setD m r3) E F⟩
/-- a new list that will change -/
theorem At.setM {σ : L2.St} {env : Env'} {p : Addr} {xs : List V} {ds : List D} (A : At W G0 H0 c G H σ env) (i : Nat) (hp : H p = none) (hi : i < env.length) (r : RpL G xs ds) : At W G0 H0 c G (upd H p (.lst xs)) (σ.set i (some (.ref p))) (env.set i (.mu ds)) := by
  have gp := A.gok.none hp
  have m : ¬ W.M p := fun m => W.mtr A.j m (nf_none hp)
  have h0 : Nf H0 p := A.st.dom p (nf_none hp)
  refine ⟨stp_upd A.st h0 (noTb_lst _), A.sb, gok_upd A.gok gp, J_new A.j hp, by rw [List.length_set, List.length_set, A.env.len], fun k e h => ?_, fun k es h => ?_, fun a b ds1 es l ne h1 h2 h3 => ?_⟩
  · by_cases hk : k = i
    · subst hk
      rw [List.getElem?_set_self hi] at h
      cases h
    · rw [List.getElem?_set_ne (Ne.symm hk)] at h ⊢
      exact A.env.dat k e h
  · by_cases hk : k = i
    · subst hk
      rw [List.getElem?_set_self hi] at h
      cases h
      exact ⟨p, xs, List.getElem?_set_self (by rw [A.env.len]; exact hi), upd_same, gp, r, m, h0⟩
    · rw [List.getElem?_set_ne (Ne.symm hk)] at h ⊢
      obtain ⟨l, ys, e, hl, r⟩ := A.env.mu k es h
      exact ⟨l, ys, e, by rw [upd_ne (ne_of_none hl hp)]; exact hl, r⟩
  · have key : ∀ (k : Nat) (es : List D) (l : Addr), k ≠ i → (env.set i (.mu ds))[k]? = some (.mu es) → (σ.set i (some (.ref p)))[k]? = some (some (.ref l)) → l ≠ p := fun k es l hk h h' e => by
      rw [List.getElem?_set_ne (Ne.symm hk)] at h h'
      obtain ⟨l', ys, e1, hl, _⟩ := A.env.mu k es h
      rw [h'] at e1
      cases e1
      rw [e, hp] at hl
      cases hl
    have self : (σ.set i (some (V.ref p)))[i]? = some (some (.ref p)) := List.getElem?_set_self (by rw [A.env.len]; exact hi)
    by_cases ha : a = i
    · subst ha
      rw [self] at h3
      cases h3
      exact fun h4 => key b es p (Ne.symm ne) h2 h4 rfl
    · by_cases hb : b = i
      · subst hb
        rw [self]
        intro h4
        cases h4
        exact key a ds1 p ha h1 h3 rfl
      · rw [List.getElem?_set_ne (Ne.symm ha)] at h1 h3
        rw [List.getElem?_set_ne (Ne.symm hb)] at h2 ⊢
        exact A.env.apart a b ds1 es l ne h1 h2 h3
/-- a fresh list, put into a slot -/
theorem At.setMN {σ : L2.St} {env : Env'} {p : Addr} {xs : List V} {ds : List D} (A : At W G0 H0 c G H σ env) (i : Nat) (hi : i < env.length) (s : Stp W G H G2 H2) (g : GOk W G2 H2) (j : W.J c' H2) (hp : H2 p = some (.lst xs)) (gp : G2 p = none) (nf : Nf H p) (m : ¬ W.M p) (r : RpL G2 xs ds) :
    At W G0 H0 c' G2 H2 (σ.set i (some (.ref p))) (env.set i (.mu ds)) := by
  have A' := A.step s g j
  have h0 : Nf H0 p := A.st.dom p nf
  have ap : ∀ (k : Nat) (es : List D) (l : Addr), env[k]? = some (.mu es) → σ[k]? = some (some (.ref l)) → l ≠ p := fun k es l h h' e => by
    obtain ⟨l', ys, e1, hl, _⟩ := A.env.mu k es h
    rw [h'] at e1
    cases e1
    rw [e] at hl
    exact nf_no hl (noTb_lst _) nf
  refine ⟨A'.st, A'.sb, g, j, by rw [List.length_set, List.length_set, A.env.len], fun k e h => ?_, fun k es h => ?_, fun a b ds1 es l ne h1 h2 h3 => ?_⟩
  · by_cases hk : k = i
    · subst hk
      rw [List.getElem?_set_self hi] at h
      cases h
    · rw [List.getElem?_set_ne (Ne.symm hk)] at h ⊢
      exact A'.env.dat k e h
  · by_cases hk : k = i
    · subst hk
      rw [List.getElem?_set_self hi] at h
      cases h
      exact ⟨p, xs, List.getElem?_set_self (by rw [A.env.len]; exact hi), hp, gp, r, m, h0⟩
    · rw [List.getElem?_set_ne (Ne.symm hk)] at h ⊢
      exact A'.env.mu k es h
  · have self : (σ.set i (some (V.ref p)))[i]? = some (some (.ref p)) := List.getElem?_set_self (by rw [A.env.len]; exact hi)
    by_cases ha : a = i
    · subst ha
      rw [self] at h3
      cases h3
      intro h4
      rw [List.getElem?_set_ne ne] at h2 h4
      exact ap b es p h2 h4 rfl
    · by_cases hb : b = i
      · subst hb
        rw [self]
        intro h4
        cases h4
        rw [List.getElem?_set_ne (Ne.symm ha)] at h1 h3
        exact ap a ds1 p h1 h3 rfl
      · rw [List.getElem?_set_ne (Ne.symm ha)] at h1 h3
        rw [List.getElem?_set_ne (Ne.symm hb)] at h2 ⊢
        exact A'.env.apart a b ds1 es l ne h1 h2 h3
theorem tr_setMN1 {te : TE} {env : Env'} {po : Po} {i n : Nat} {P : List D → Prop} (hi : i < env.length) (h : MN W te env c n P) (k : ∀ ds, P ds → po.nx (env.set i (.mu ds)) (c + n)) : Tr W (tAsg te (gName i)) env c po := fun G0 H0 σ G H A E F =>
  h G0 H0 σ G H A _ fun p xs ds G2 H2 s g j hp gp nf m r pd => F.nx _ _ _ _ _ (A.setMN i hi s g j hp gp nf m r) (k ds pd)
theorem tr_setMN {te : TE} {u : TS} {env : Env'} {po : Po} {i n : Nat} {P : List D → Prop} (hi : i < env.length) (h : MN W te env c n P) (k : ∀ ds, P ds → Tr W u (env.set i (.mu ds)) (c + n) po) : Tr W (tSeq (tAsg te (gName i)) u) env c po :=
  tr_seq (fun e2 c2 => Tr W u e2 c2 po) (tr_setMN1 hi h k) fun _ _ h => h
theorem tr_new {u : TS} {env : Env'} {po : Po} {i : Nat} (hi : i < env.length) (k : Tr W u (env.set i (.mu [])) c po) : Tr W (tSeq (tAsg (tLst tNil) (gName i)) u) env c po := fun G0 H0 σ G H A E F =>
  ⟨Nat.zero_le _, fun p hp => k _ _ _ _ _ (A.setM i hp hi .nil) E F⟩
theorem tr_par_new {te : TE} {u : TS} {env : Env'} {po : Po} {i j : Nat} {d : D} (hi : i < env.length) (ne : i ≠ j) (h : ED W te (env.set i (.mu [])) d) (h' : ∀ σ v H Q, te (σ.set i v) H Q → te σ H Q) (k : Tr W u ((env.set i (.mu [])).set j (.dat d)) c po) : Tr W (tSeq (tPar i j (tCons (tLst tNil) (tCons te tNil))) u) env c po := fun G0 H0 σ G H A E F =>
  ⟨Nat.zero_le _, fun p hp => h' σ (some (.ref p)) _ _ (h c _ _ _ _ _ (A.setM i hp hi .nil) _ fun v G1 H1 s1 g1 j1 r1 => ⟨_, _, rfl, k _ _ _ _ _ (((A.setM i hp hi .nil).step s1 g1 j1).setD j r1) E F⟩)⟩
/-- the list is changed -/
theorem At.chM {σ : L2.St} {env : Env'} {l : Addr} {ys : List V} {ds es : List D} {i : Nat} (A : At W G0 H0 c G H σ env) (he : env[i]? = some (.mu ds)) (hs : σ[i]? = some (some (.ref l))) (r : RpL G ys es) : At W G0 H0 c G (upd H l (.lst ys)) σ (env.set i (.mu es)) := by
  obtain ⟨l', xs', e1, hl, gl, rr, m, h0⟩ := A.env.mu i ds he
  rw [hs] at e1
  cases e1
  have hi : i < env.length := (List.getElem?_eq_some_iff.mp he).1
  refine ⟨stp_upd A.st h0 (noTb_lst _), A.sb, gok_upd A.gok gl, W.updl A.j m hl, by rw [List.length_set, A.env.len], fun k e h => ?_, fun k es' h => ?_, fun a b ds1 es' l1 ne h1 h2 h3 => ?_⟩
  · by_cases hk : k = i
    · subst hk
      rw [List.getElem?_set_self hi] at h
      cases h
    · rw [List.getElem?_set_ne (Ne.symm hk)] at h
      exact A.env.dat k e h
  · by_cases hk : k = i
    · subst hk
      rw [List.getElem?_set_self hi] at h
      cases h
      exact ⟨_, ys, hs, upd_same, gl, r, m, h0⟩
    · rw [List.getElem?_set_ne (Ne.symm hk)] at h
      obtain ⟨l2, zs, e, hl2, q⟩ := A.env.mu k es' h
      have n : l2 ≠ l := fun z => by
        subst z
        exact A.env.apart i k ds es' l2 (Ne.symm hk) he h hs e
      exact ⟨l2, zs, e, by rw [upd_ne n]; exact hl2, q⟩
  · have key : ∀ (k : Nat) (x : List D), (env.set i (.mu es))[k]? = some (.mu x) → ∃ y, env[k]? = some (.mu y) := fun k x h => by
      by_cases hk : k = i
      · rw [hk]
        exact ⟨ds, he⟩
      · rw [List.getElem?_set_ne (Ne.symm hk)] at h
        exact ⟨x, h⟩
    obtain ⟨y1, z1⟩ := key a _ h1
    obtain ⟨y2, z2⟩ := key b _ h2
    exact A.env.apart a b y1 y2 l1 ne z1 z2 h3
theorem ev_mu {env : Env'} {ds : List D} {i : Nat} {σ : L2.St} (A : At W G0 H0 c G H σ env) (he : env[i]? = some (.mu ds)) : ∃ l xs, σ[i]? = some (some (.ref l)) ∧ H l = some (.lst xs) ∧ RpL G xs ds ∧ ¬ W.M l ∧ G l = none := by
  obtain ⟨l', xs', e1, hl, gl, rr, m, h0⟩ := A.env.mu i ds he
  exact ⟨l', xs', e1, hl, rr, m, gl⟩
theorem app_core {te : TE} {env : Env'} {i n : Nat} {ds : List D} {P : D → Prop} (he : env[i]? = some (.mu ds)) (hz : ds.length < 100000) (h : EN W te env c n P) {σ : L2.St} (A : At W G0 H0 c G H σ env) {Q : Hp → Prop}
    (q : ∀ d G2 H2, P d → At W G0 H0 (c + n) G2 H2 σ (env.set i (.mu (ds ++ [d]))) → Q H2) : tBM K "list" rAppend (tVar i) (tCons te tNil) σ H fun _ H1 => Q H1 := by
  obtain ⟨l, xs, e1, hl, rr, m, gl⟩ := ev_mu A he
  refine ⟨_, e1, .inl ⟨rfl, xs, SqL.of hl⟩, ?_⟩
  refine h _ _ _ _ _ A _ fun v d G1 H1 s1 g1 j1 r1 p => ?_
  have hl1 := s1.hh l _ hl m (noTb_lst _)
  refine ⟨l, xs, v, rfl, rfl, hl1, Nat.lt_of_lt_of_le (by rw [rr.len]; exact hz) (by decide), q d G1 _ p ?_⟩
  exact (A.step s1 g1 j1).chM he e1 ((rr.mono s1.gg).app (.cons r1 .nil))
/-- x.append(e) -/
theorem tr_app {te : TE} {u : TS} {env : Env'} {po : Po} {i : Nat} {ds : List D} {d : D} (he : env[i]? = some (.mu ds)) (hz : ds.length < 100000) (h : ED W te env d) (k : Tr W u (env.set i (.mu (ds ++ [d]))) c po) : Tr W (tSeq (tDrop (tBM K "list" rAppend (tVar i) (tCons te tNil))) u) env c po := fun G0 H0 σ G H A E F =>
  app_core he hz h.n A fun d' G2 H2 p A2 => by
    subst p
    exact k _ _ _ _ _ A2 E F
theorem tr_app1 {te : TE} {env : Env'} {po : Po} {i : Nat} {ds : List D} {d : D} (he : env[i]? = some (.mu ds)) (hz : ds.length < 100000) (h : ED W te env d) (k : po.nx (env.set i (.mu (ds ++ [d]))) c) : Tr W (tDrop (tBM K "list" rAppend (tVar i) (tCons te tNil))) env c po := fun G0 H0 σ G H A E F =>
  app_core he hz h.n A fun d' G2 H2 p A2 => by
    subst p
    exact F.nx _ _ _ _ _ A2 k
theorem tr_appN1 {te : TE} {env : Env'} {po : Po} {i n : Nat} {ds : List D} {P : D → Prop} (he : env[i]? = some (.mu ds)) (hz : ds.length < 100000) (h : EN W te env c n P) (k : ∀ d, P d → po.nx (env.set i (.mu (ds ++ [d]))) (c + n)) : Tr W (tDrop (tBM K "list" rAppend (tVar i) (tCons te tNil))) env c po := fun G0 H0 σ G H A E F =>
  app_core he hz h A fun d' G2 H2 p A2 => F.nx _ _ _ _ _ A2 (k d' p)
/-- x[e1] = e2 -/
theorem tr_setL {te ti : TE} {u : TS} {env : Env'} {po : Po} {i n : Nat} {j : Nat} {ds : List D} {P : D → Prop} (he : env[i]? = some (.mu ds)) (h : EN W te env c n P) (hi : ED W ti env (.int (j : Nat))) (hj : j < ds.length) (k : ∀ d, P d → Tr W u (env.set i (.mu (ds.set j d))) (c + n) po) : Tr W (tSeq (tAsg te (gSub (tVar i) ti rSetL)) u) env c po := fun G0 H0 σ G H A E F => by
  obtain ⟨l, xs, e1, hl, rr, m, gl⟩ := ev_mu A he
  refine h _ _ _ _ _ A _ fun v d G1 H1 s1 g1 j1 r1 p => ?_
  refine ⟨_, e1, ?_⟩
  refine hi _ _ _ _ _ _ (A.step s1 g1 j1) _ fun v2 G2 H2 s2 g2 j2 r2 => ?_
  cases r2
  have hl2 := (s1.trans s2).hh l _ hl m (noTb_lst _)
  refine ⟨l, xs, j, j, rfl, rfl, hl2, ?_, ?_⟩
  · have : j < xs.length := by rw [rr.len]; exact hj
    unfold ixN
    rw [if_pos (by omega), if_pos (by omega)]
    simp
  · exact k d p _ _ _ _ _ (((A.step s1 g1 j1).step s2 g2 j2).chM he e1 (RpL.set (r1.mono s2.gg) j (rr.mono (s1.trans s2).gg))) E F
/-- from now on the list stands still -/
theorem At.frz {σ : L2.St} {env : Env'} {ds : List D} {i : Nat} (A : At W G0 H0 c G H σ env) (he : env[i]? = some (.mu ds)) : ∃ G', At W G0 H0 c G' H σ (env.set i (.dat (.lst ds))) := by
  obtain ⟨l, xs, e1, hl, gl, rr, m, h0⟩ := A.env.mu i ds he
  have hi : i < env.length := (List.getElem?_eq_some_iff.mp he).1
  have sn := same_new gl (HO.lst xs)
  refine ⟨upd G l (.lst xs), stp_frz A.st h0 gl, A.sb.trans sn, gok_frz A.gok hl (noTb_lst _) m, A.j, by rw [List.length_set, A.env.len], fun k e h => ?_, fun k es h => ?_, fun a b ds1 es l1 ne h1 h2 h3 => ?_⟩
  · by_cases hk : k = i
    · subst hk
      rw [List.getElem?_set_self hi] at h
      cases h
      exact ⟨_, e1, .lst upd_same (rr.mono sn)⟩
    · rw [List.getElem?_set_ne (Ne.symm hk)] at h
      obtain ⟨v, q1, q2⟩ := A.env.dat k e h
      exact ⟨v, q1, q2.mono sn⟩
  · by_cases hk : k = i
    · subst hk
      rw [List.getElem?_set_self hi] at h
      cases h
    · rw [List.getElem?_set_ne (Ne.symm hk)] at h
      obtain ⟨l2, zs, e, hl2, gl2, q, m2⟩ := A.env.mu k es h
      have n : l2 ≠ l := fun z => by
        subst z
        exact A.env.apart i k ds es l2 (Ne.symm hk) he h e1 e
      exact ⟨l2, zs, e, hl2, by rw [upd_ne n]; exact gl2, q.mono sn, m2⟩
  · have key : ∀ (k : Nat) (x : List D), (env.set i (.dat (.lst ds)))[k]? = some (.mu x) → env[k]? = some (.mu x) := fun k x h => by
      by_cases hk : k = i
      · subst hk
        rw [List.getElem?_set_self hi] at h
        cases h
      · rw [List.getElem?_set_ne (Ne.symm hk)] at h
        exact h
    exact A.env.apart a b _ _ l1 ne (key a _ h1) (key b _ h2) h3
theorem tr_frz {t : TS} {env : Env'} {po : Po} {i : Nat} {ds : List D} (he : env[i]? = some (.mu ds)) (k : Tr W t (env.set i (.dat (.lst ds))) c po) : Tr W t env c po := fun G0 H0 σ G H A E F => by
  obtain ⟨G', A'⟩ := A.frz he
  exact k _ _ _ _ _ A' E F
/-- return e -/
theorem tr_ret {te : TE} {env : Env'} {po : Po} {d : D} (h : ED W te env d) (k : po.rt d c) : Tr W (tRet te) env c po := fun G0 H0 σ G H A E F =>
  h c G0 H0 σ G H A _ fun v G1 H1 s1 g1 j1 r1 => F.rt v d c G1 H1 (A.st.trans s1) g1 j1 r1 k
theorem tr_retN {te : TE} {env : Env'} {po : Po} {n : Nat} {P : D → Prop} (h : EN W te env c n P) (k : ∀ d, P d → po.rt d (c + n)) : Tr W (tRet te) env c po := fun G0 H0 σ G H A E F =>
  h G0 H0 σ G H A _ fun v d G1 H1 s1 g1 j1 r1 p => F.rt v d _ G1 H1 (A.st.trans s1) g1 j1 r1 (k d p)
/-- an expression -/
theorem tr_drop {te : TE} {u : TS} {env : Env'} {po : Po} {d : D} (h : ED W te env d) (k : Tr W u env c po) : Tr W (tSeq (tDrop te) u) env c po := fun G0 H0 σ G H A E F =>
  h c G0 H0 σ G H A _ fun v G1 H1 s1 g1 j1 r1 => k _ _ _ _ _ (A.step s1 g1 j1) E F
/-- if -/
theorem tr_if {tt : TT} {t u : TS} {env : Env'} {po : Po} {b : Bool} (h : ET W tt env b) (h1 : b = true → Tr W t env c po) (h2 : b = false → Tr W u env c po) : Tr W (tIfS tt t u) env c po := fun G0 H0 σ G H A E F =>
  h c G0 H0 σ G H A _ fun G1 H1 s1 g1 j1 => by
    cases b with
    | true => exact h1 rfl _ _ _ _ _ (A.step s1 g1 j1) E F
    | false => exact h2 rfl _ _ _ _ _ (A.step s1 g1 j1) E F
/-- if .., then the rest -/
theorem tr_ifs {tt : TT} {t u z : TS} {env : Env'} {po : Po} {b : Bool} (h : ET W tt env b) (h1 : b = true → Tr W t env c { po with nx := fun e2 c2 => Tr W z e2 c2 po }) (h2 : b = false → Tr W u env c { po with nx := fun e2 c2 => Tr W z e2 c2 po }) : Tr W (tSeq (tIfS tt t u) z) env c po :=
  tr_seq (fun e2 c2 => Tr W z e2 c2 po) (tr_if h h1 h2) fun _ _ r => r
/-- if .. without else that leaves the def -/
theorem tr_when {tt : TT} {t z : TS} {env : Env'} {po : Po} {b : Bool} (h : ET W tt env b) (h1 : b = true → Tr W t env c { po with nx := fun e2 c2 => Tr W z e2 c2 po }) (h2 : b = false → Tr W z env c po) : Tr W (tSeq (tIfS tt t tNext) z) env c po :=
  tr_ifs h h1 fun e => tr_next (h2 e)
theorem tr_whenN {tt : TT} {t z : TS} {env : Env'} {po : Po} {n : Nat} {P : Bool → Prop} (h : ETN W tt env c n P) (h1 : P true → Tr W t env (c + n) { po with nx := fun e2 c2 => Tr W z e2 c2 po }) (h2 : P false → Tr W z env (c + n) po) : Tr W (tSeq (tIfS tt t tNext) z) env c po := fun G0 H0 σ G H A E F =>
  h G0 H0 σ G H A _ fun b G1 H1 s1 g1 j1 p => by
    cases b with
    | true => exact h1 p _ _ _ _ _ (A.step s1 g1 j1) { E with nx := z E } ⟨fun σ2 env2 c2 G2 H2 A2 r => r _ _ _ _ _ A2 E F, F.rt, F.bk, F.ct⟩
    | false => exact h2 p _ _ _ _ _ (A.step s1 g1 j1) E F
/-- for -/
theorem tr_for {wi : TI} {g : TG} {tb : TS} {env : Env'} {po : Po} {n : Nat} {P : List D → Prop} (hs : SrcN W wi env c n P) (k : ∀ items, P items → ∃ Iv : Nat → Env' → Nat → Prop, Iv 0 env (c + n) ∧
      (∀ (i : Nat) (d : D) e1 c1, items[i]? = some d → Iv i e1 c1 → ∃ e2, TgOk W g d e1 e2 ∧ Tr W tb e2 c1 { po with nx := Iv (i + 1), ct := Iv (i + 1), bk := po.nx }) ∧ (∀ e1 c1, Iv items.length e1 c1 → po.nx e1 c1)) : Tr W (tFor wi g tb) env c po := by
  intro G0 H0 σ G H A E F
  refine hs G0 H0 σ G H A _ fun J G1 H1 items s1 g1 j1 p its => ?_
  obtain ⟨Iv, h0, hstep, hend⟩ := k items p
  refine ⟨fun i m σ' H' => m = items.length - i ∧ i ≤ items.length ∧ ∃ G' e1 c1, Same G1 G' ∧ At W G0 H0 c1 G' H' σ' e1 ∧ Iv i e1 c1, ⟨items.length, by simp, Nat.zero_le _, G1, env, c + n, fun _ _ h => h, A.step s1 g1 j1, h0⟩, ?_⟩
  rintro i m σ' H' ⟨rfl, hi, G', e1, c1, sg, A', iv⟩
  by_cases hlt : i < items.length
  · refine .inr ⟨its.go i G' H' A'.gok sg ⟨_, A'.j⟩ hlt, fun σ'' H'' => i + 1 ≤ items.length ∧ ∃ G' e1 c1, Same G1 G' ∧ At W G0 H0 c1 G' H'' σ'' e1 ∧ Iv (i + 1) e1 c1, fun σ'' H'' h => ⟨items.length - (i + 1), by omega, rfl, h⟩, fun x H2 hy => ?_⟩
    have hx : items[i]? = some items[i] := List.getElem?_eq_getElem hlt
    obtain ⟨G2, s2, g2, j2, r2⟩ := its.yld i items[i] _ G' H' x H2 A'.gok sg A'.j hx hy
    obtain ⟨e2, tg, t⟩ := hstep i items[i] e1 c1 hx iv
    refine tg _ _ _ _ _ _ _ (A'.step s2 g2 j2) r2 _ fun σ3 A3 => ?_
    refine t (G1, G0.2) H0 σ3 G2 H2 ⟨A3.st, sg.trans s2.gg, A3.gok, A3.j, A3.env⟩ _ ⟨fun σ4 e4 c4 G4 H4 A4 q => ?_, fun v d c4 G4 H4 st g j r q => F.rt v d c4 G4 H4 st g j r q, fun σ4 e4 c4 G4 H4 A4 q => ?_, fun σ4 e4 c4 G4 H4 A4 q => ?_⟩
    · exact ⟨hlt, G4, e4, c4, A4.sb, ⟨A4.st, A.sb.trans (s1.gg.trans A4.sb), A4.gok, A4.j, A4.env⟩, q⟩
    · exact F.nx _ _ _ _ _ ⟨A4.st, A.sb.trans (s1.gg.trans A4.sb), A4.gok, A4.j, A4.env⟩ q
    · exact ⟨hlt, G4, e4, c4, A4.sb, ⟨A4.st, A.sb.trans (s1.gg.trans A4.sb), A4.gok, A4.j, A4.env⟩, q⟩
  · have e : i = items.length := by omega
    subst e
    exact .inl ⟨its.stop _ G' H' A'.gok sg ⟨_, A'.j⟩ (Nat.le_refl _), F.nx _ _ _ _ _ A' (hend e1 c1 iv)⟩
end
end Fx

set_option Elab.async false
set_option linter.all false
set_option maxRecDepth 100000
set_option maxHeartbeats 4000000
/-! Operators and built-ins on data; what a def promises. -/
namespace Fx
open PySem PySem.Spec PyProof.Rows L2

/-! ### plain data: ==, != -/
mutual
def D.py : D → PyData
  | .non => .none
  | .bl b => .bool b
  | .int i => .int i
  | .str s => .str s
  | .tup ds => .tuple (pyL ds)
  | .lst ds => .list (pyL ds)
  | .dic _ => .dict []
  | .raw _ => .dict []
def pyL : List D → List PyData
  | [] => []
  | d :: ds => D.py d :: pyL ds
end
mutual
/-- no deeper than n, no dict within -/
def D.ok : Nat → D → Bool
  | _, .non => true
  | _, .bl _ => true
  | _, .int _ => true
  | _, .str s => PyData.canLay0 (.str s)
  | n + 1, .tup ds => okL n ds
  | n + 1, .lst ds => okL n ds
  | 0, .tup _ => false
  | 0, .lst _ => false
  | _, .dic _ => false
  | _, .raw _ => false
def okL : Nat → List D → Bool
  | _, [] => true
  | n, d :: ds => D.ok n d && okL n ds
end
mutual
theorem lay_of_ok : ∀ {n : Nat} {d : D}, D.ok n d = true → PyData.canLay0 d.py = true ∧ d.py.depth ≤ n
  | n, .non, _ => ⟨rfl, by rw [D.py, PyData.depth]; omega⟩
  | n, .bl _, _ => ⟨rfl, by rw [D.py, PyData.depth]; omega⟩
  | n, .int _, _ => ⟨rfl, by rw [D.py, PyData.depth]; omega⟩
  | n, .str s, h => ⟨by rw [D.ok] at h; rw [D.py]; exact h, by rw [D.py, PyData.depth]; omega⟩
  | n + 1, .tup ds, h => by
    rw [D.ok] at h
    obtain ⟨h1, h2⟩ := lay_of_okL h
    exact ⟨by rw [D.py, PyData.canLay0]; exact h1, by rw [D.py, PyData.depth]; omega⟩
  | n + 1, .lst ds, h => by
    rw [D.ok] at h
    obtain ⟨h1, h2⟩ := lay_of_okL h
    exact ⟨by rw [D.py, PyData.canLay0]; exact h1, by rw [D.py, PyData.depth]; omega⟩
  | 0, .tup _, h => by rw [D.ok] at h; cases h
  | 0, .lst _, h => by rw [D.ok] at h; cases h
  | n, .dic _, h => by rw [D.ok] at h; cases h
  | n, .raw _, h => by rw [D.ok] at h; cases h
theorem lay_of_okL : ∀ {n : Nat} {ds : List D}, okL n ds = true → PyData.canLayAll0 (pyL ds) = true ∧ PyData.depthAll (pyL ds) ≤ n
  | n, [], _ => ⟨rfl, by rw [pyL, PyData.depthAll]; omega⟩
  | n, d :: ds, h => by
    rw [okL, Bool.and_eq_true] at h
    obtain ⟨h1, h2⟩ := lay_of_ok h.1
    obtain ⟨h3, h4⟩ := lay_of_okL h.2
    exact ⟨by rw [pyL, PyData.canLayAll0, h1, h3]; rfl, by rw [pyL, PyData.depthAll]; omega⟩
end
theorem shaped_of_ok {n : Nat} {d : D} (h : D.ok n d = true) (hn : n ≤ 64 := by decide) : SeqAt.shaped d.py = true := by
  obtain ⟨h1, h2⟩ := lay_of_ok h
  unfold SeqAt.shaped
  rw [h1, decide_eq_true (Nat.le_trans h2 hn)]; rfl
theorem okL_map {α : Type} {n : Nat} {f : α → D} (h : ∀ x, D.ok n (f x) = true) : ∀ xs : List α, okL n (xs.map f) = true
  | [] => by rw [List.map_nil, okL]
  | x :: xs => by rw [List.map_cons, okL, h x, okL_map h xs]; rfl
theorem ok_int {n : Nat} {i : Int} : D.ok n (.int i) = true := by cases n <;> rfl
theorem ok_bl {n : Nat} {i : Bool} : D.ok n (.bl i) = true := by cases n <;> rfl
theorem ok_non {n : Nat} : D.ok n .non = true := by cases n <;> rfl
theorem okL_nil {n : Nat} : okL n [] = true := by rw [okL]
theorem okL_cons {n : Nat} {d : D} {ds : List D} (h : D.ok n d = true) (h2 : okL n ds = true) : okL n (d :: ds) = true := by rw [okL, h, h2]; rfl
/-- a tuple of ints, a list of such -/
abbrev dI (ns : List Int) : D := .tup (ns.map .int)
abbrev dLI (ns : List Int) : D := .lst (ns.map .int)
abbrev dLL (ls : List (List Int)) : D := .lst (ls.map dI)
theorem ok_dI {ns : List Int} : D.ok 1 (dI ns) = true := by
  show okL 0 _ = true
  exact okL_map (fun _ => ok_int) _
theorem ok_dI2 {ns : List Int} : D.ok 2 (dI ns) = true := by
  show okL 1 _ = true
  exact okL_map (fun _ => ok_int) _
theorem ok_dLI {ns : List Int} : D.ok 1 (dLI ns) = true := by
  show okL 0 _ = true
  exact okL_map (fun _ => ok_int) _
theorem ok_dLL {ns : List (List Int)} : D.ok 2 (dLL ns) = true := by
  show okL 1 _ = true
  exact okL_map (fun _ => ok_dI) _
section
variable {T : List (Addr × Str)} {W : Wld T} {G H G1 H1 G2 H2 H0 : Hp} {G0 : Hp × Hp} {c c' k : Nat} {K : PySem.W.Frag}
mutual
theorem Rp.dp (g : GOk W G H) : ∀ {n : Nat} {v : V} {d : D}, D.ok n d = true → Rp G v d → Dp K H v d.py
  | _, _, _, _, .non => by rw [D.py]; exact .non
  | _, _, _, _, .bl b => by rw [D.py]; exact .bl b
  | _, _, _, _, .int i => by rw [D.py]; exact .int i
  | _, _, _, _, .str s => by rw [D.py]; exact .str s
  | n, _, _, h, .raw _ => by rw [D.ok] at h; cases h
  | n, _, _, h, .dic _ _ => by rw [D.ok] at h; cases h
  | 0, _, _, h, .tup _ _ => by rw [D.ok] at h; cases h
  | 0, _, _, h, .lst _ _ => by rw [D.ok] at h; cases h
  | n + 1, _, _, h, .tup ha r => by
    rw [D.ok] at h
    rw [D.py]
    exact .tup (sqT_of g ha) (RpL.dp g h r)
  | n + 1, _, _, h, .lst ha r => by
    rw [D.ok] at h
    rw [D.py]
    exact .lst (sqL_of g ha) (RpL.dp g h r)
theorem RpL.dp (g : GOk W G H) : ∀ {n : Nat} {vs : List V} {ds : List D}, okL n ds = true → RpL G vs ds → DpAll K H vs (pyL ds)
  | _, _, _, _, .nil => by rw [pyL]; exact .nil
  | n, _, _, h, .cons r rs => by
    rw [okL, Bool.and_eq_true] at h
    rw [pyL]
    exact .cons (Rp.dp g h.1 r) (RpL.dp g h.2 rs)
end
def D.eqv (a b : D) : Bool := PyData.eqv a.py b.py
def eqvL (a b : List D) : Bool := PyData.eqvAll (pyL a) (pyL b)
theorem eqv_tup {a b : List D} : D.eqv (.tup a) (.tup b) = eqvL a b := by unfold D.eqv; rw [D.py, D.py, PyData.eqv]; rfl
theorem eqv_lst {a b : List D} : D.eqv (.lst a) (.lst b) = eqvL a b := by unfold D.eqv; rw [D.py, D.py, PyData.eqv]; rfl
theorem eqvL_nil : eqvL [] [] = true := by unfold eqvL; rw [pyL, PyData.eqvAll]
theorem eqvL_cons {a b : D} {as bs : List D} : eqvL (a :: as) (b :: bs) = (D.eqv a b && eqvL as bs) := by unfold eqvL; rw [pyL, pyL, PyData.eqvAll]; rfl
theorem eqvL_nc {b : D} {bs : List D} : eqvL [] (b :: bs) = false := by unfold eqvL; rw [pyL, pyL, PyData.eqvAll]
theorem eqvL_cn {b : D} {bs : List D} : eqvL (b :: bs) [] = false := by unfold eqvL; rw [pyL, pyL, PyData.eqvAll]
theorem eqv_int {i j : Int} : D.eqv (.int i) (.int j) = decide (i = j) := by
  unfold D.eqv; rw [D.py, D.py, PyData.eqv, Bool.beq_eq_decide_eq]
theorem eqvL_map {α : Type} [DecidableEq α] {f : α → D} (h : ∀ x y, D.eqv (f x) (f y) = decide (x = y)) : ∀ (xs ys : List α), eqvL (xs.map f) (ys.map f) = decide (xs = ys)
  | [], [] => by simp [eqvL_nil]
  | [], y :: ys => by simp [eqvL_nc]
  | x :: xs, [] => by simp [eqvL_cn]
  | x :: xs, y :: ys => by
    rw [List.map_cons, List.map_cons, eqvL_cons, h, eqvL_map h xs ys, Bool.eq_iff_iff]
    simp
theorem eqv_dI {a b : List Int} : D.eqv (dI a) (dI b) = decide (a = b) := by
  rw [eqv_tup]; exact eqvL_map (fun _ _ => eqv_int) a b
theorem eqv_dLI {a b : List Int} : D.eqv (dLI a) (dLI b) = decide (a = b) := by
  rw [eqv_lst]; exact eqvL_map (fun _ _ => eqv_int) a b
theorem eqv_dLL {a b : List (List Int)} : D.eqv (dLL a) (dLL b) = decide (a = b) := by
  rw [eqv_lst]; exact eqvL_map (fun _ _ => eqv_dI) a b
theorem eqv_lst_nil {a : List D} : D.eqv (.lst a) (.lst []) = a.isEmpty := by
  rw [eqv_lst]
  cases a with
  | nil => exact eqvL_nil
  | cons => exact eqvL_cn
theorem eqv_tup_nil {a : List D} : D.eqv (.tup a) (.tup []) = a.isEmpty := by
  rw [eqv_tup]
  cases a with
  | nil => exact eqvL_nil
  | cons => exact eqvL_cn
theorem rd_eqD {a b : D} {n m : Nat} (ha : D.ok n a = true) (hb : D.ok m b = true) (hn : n ≤ 64 := by decide) (hm : m ≤ 64 := by decide) : RD2 W (rEqD K) a b (.bl (D.eqv a b)) := fun c G H v1 v2 g j r1 r2 Q q =>
  ⟨_, _, r1.dp g ha, r2.dp g hb, shaped_of_ok ha hn, shaped_of_ok hb hm, q.here g j (.bl _)⟩
theorem rd_neD {a b : D} {n m : Nat} (ha : D.ok n a = true) (hb : D.ok m b = true) (hn : n ≤ 64 := by decide) (hm : m ≤ 64 := by decide) : RD2 W (rNeD K) a b (.bl (!D.eqv a b)) := fun c G H v1 v2 g j r1 r2 Q q =>
  ⟨_, _, r1.dp g ha, r2.dp g hb, shaped_of_ok ha hn, shaped_of_ok hb hm, q.here g j (.bl _)⟩
theorem rd_eqI {i j : Int} : RD2 W (rEqD K) (.int i) (.int j) (.bl (decide (i = j))) := by
  have h := rd_eqD (W := W) (K := K) (a := .int i) (b := .int j) (n := 0) (m := 0) rfl rfl
  rw [eqv_int] at h
  exact h
theorem rd_neI {i j : Int} : RD2 W (rNeD K) (.int i) (.int j) (.bl (!decide (i = j))) := by
  have h := rd_neD (W := W) (K := K) (a := .int i) (b := .int j) (n := 0) (m := 0) rfl rfl
  rw [eqv_int] at h
  exact h
/-- x in xs, any plain data -/
theorem rd_inD {x : D} {xs : List D} {n m : Nat} (ha : D.ok n x = true) (hb : D.ok m (.lst xs) = true) (hn : n ≤ 64 := by decide) (hm : m ≤ 64 := by decide) : RD2 W (rInD K) x (.lst xs) (.bl ((pyL xs).any fun z => PyData.eqv z x.py)) := fun c G H v1 v2 g j r1 r2 Q q => by
  have h2 := r2.dp (K := K) g hb
  have h3 := shaped_of_ok hb hm
  rw [D.py] at h2 h3
  exact ⟨_, _, r1.dp g ha, h2, shaped_of_ok ha hn, h3, q.here g j (.bl _)⟩
theorem any_pyL {x : PyData} : ∀ {xs : List D}, (pyL xs).any (fun z => PyData.eqv z x) = xs.any fun z => PyData.eqv z.py x
  | [] => rfl
  | d :: ds => by rw [pyL, List.any_cons, List.any_cons, any_pyL]

/-! ### ints -/
theorem rd_add {i j : Int} : RD2 W (rI0 fun i j => .int (i + j)) (.int i) (.int j) (.int (i + j)) := rd_I0 fun _ => .int _
theorem rd_sub {i j : Int} : RD2 W (rI0 fun i j => .int (i - j)) (.int i) (.int j) (.int (i - j)) := rd_I0 fun _ => .int _
theorem rd_lt {i j : Int} : RD2 W (rI0 fun i j => .bl (decide (i < j))) (.int i) (.int j) (.bl (decide (i < j))) := rd_I0 fun _ => .bl _
theorem rd_le {i j : Int} : RD2 W (rI0 fun i j => .bl (decide (i ≤ j))) (.int i) (.int j) (.bl (decide (i ≤ j))) := rd_I0 fun _ => .bl _
theorem rd_gt {i j : Int} : RD2 W (rI0 fun i j => .bl (decide (j < i))) (.int i) (.int j) (.bl (decide (j < i))) := rd_I0 fun _ => .bl _
theorem rd_ge {i j : Int} : RD2 W (rI0 fun i j => .bl (decide (j ≤ i))) (.int i) (.int j) (.bl (decide (j ≤ i))) := rd_I0 fun _ => .bl _
theorem rd_mod {i j : Int} (h : 0 < j) : RD2 W (rI (fun _ j => 0 < j) fun i j => .int (i % j)) (.int i) (.int j) (.int (i % j)) := rd_I h fun _ => .int _
theorem rd1_neg {i : Int} : RD1 W (rU fun i => .int (-i)) (.int i) (.int (-i)) := fun c G H v1 g j r1 Q q => by
  cases r1
  exact ⟨i, rfl, q.here g j (.int _)⟩
theorem rd_isN {d : D} (hd : ∀ v, d ≠ .raw v) : RD2 W (fun x y H Q => y = .non ∧ Q (.bl (decide (x = .non))) H) d .non (.bl (match d with | .non => true | _ => false)) := fun c G H v1 v2 g j r1 r2 Q q => by
  cases r2
  refine ⟨rfl, ?_⟩
  cases r1 with
  | non => exact q.here g j (.bl _)
  | raw => exact absurd rfl (hd _)
  | _ => exact q.here g j (.bl false)
theorem rd_notN {d : D} (hd : ∀ v, d ≠ .raw v) : RD2 W (fun x y H Q => y = .non ∧ Q (.bl (!decide (x = .non))) H) d .non (.bl (match d with | .non => false | _ => true)) := fun c G H v1 v2 g j r1 r2 Q q => by
  cases r2
  refine ⟨rfl, ?_⟩
  cases r1 with
  | non => exact q.here g j (.bl _)
  | raw => exact absurd rfl (hd _)
  | _ => exact q.here g j (.bl true)
theorem rd_isB {a b : Bool} : RD2 W rIsB (.bl a) (.bl b) (.bl (decide (a = b))) := fun c G H v1 v2 g j r1 r2 Q q => by
  cases r1; cases r2
  exact ⟨a, b, rfl, rfl, q.here g j (.bl _)⟩
theorem rd_notB {a b : Bool} : RD2 W rNotB (.bl a) (.bl b) (.bl (!decide (a = b))) := fun c G H v1 v2 g j r1 r2 Q q => by
  cases r1; cases r2
  exact ⟨a, b, rfl, rfl, q.here g j (.bl _)⟩

/-! ### lists and tuples -/
theorem rd_cat {a b : List D} (hz : a.length + b.length ≤ 100000) : RD2 W rCat (.lst a) (.lst b) (.lst (a ++ b)) := fun c G H v1 v2 g j r1 r2 Q q => by
  cases r1 with
  | lst h1 l1 =>
    cases r2 with
    | lst h2 l2 =>
      refine ⟨_, _, _, _, rfl, rfl, g.same _ _ h1, g.same _ _ h2, ?_, fun p hp => q.newL g j hp (l1.app l2)⟩
      rw [l1.len, l2.len]
      exact Nat.le_trans hz (by decide)
theorem rd_catA {a b : List D} (hz : a.length + b.length ≤ 100000) : RD2 W (rCatA K) (.tup a) (.tup b) (.tup (a ++ b)) := fun c G H v1 v2 g j r1 r2 Q q => by
  have r1' := r1
  have r2' := r2
  cases r1 with
  | @tup _ xs _ h1 l1 =>
    cases r2 with
    | @tup _ ys _ h2 l2 =>
      refine ⟨_, _, _, _, rfl, rfl, sqT_of g h1, sqT_of g h2, ?_, fun e => ?_, fun _ e => ?_, fun _ _ p hp => q.newT g j hp (l1.app l2)⟩
      · rw [l1.len, l2.len]
        exact Nat.le_trans hz (by decide)
      · have e2 : a = [] := List.length_eq_zero_iff.mp (by rw [← l1.len, e]; rfl)
        subst e2
        exact q.here g j r2'
      · have e2 : b = [] := List.length_eq_zero_iff.mp (by rw [← l2.len, e]; rfl)
        subst e2
        rw [List.append_nil] at q
        exact q.here g j r1'
theorem flat_ints (ns : List Int) : (ns.map V.int).all flatV = true := by
  rw [List.all_eq_true]
  intro x hx
  obtain ⟨i, _, rfl⟩ := List.mem_map.mp hx
  rfl
theorem inV_ints {i : Int} : ∀ ns : List Int, inV (.int i) (ns.map V.int) = decide (i ∈ ns)
  | [] => by simp [inV]
  | n :: ns => by
    have e := inV_ints (i := i) ns
    unfold inV at e ⊢
    rw [List.map_cons, List.any_cons, e]
    show ((n == i) || decide (i ∈ ns)) = decide (i ∈ n :: ns)
    rw [Bool.eq_iff_iff]
    simp only [Bool.or_eq_true, beq_iff_eq, decide_eq_true_eq, List.mem_cons]
    exact ⟨fun h => h.elim (fun e => .inl e.symm) .inr, fun h => h.elim (fun e => .inl e.symm) .inr⟩
theorem rd_inT {neg : Bool} {i : Int} {ns : List Int} : RD2 W (rIn K neg) (.int i) (dI ns) (.bl (if neg then !decide (i ∈ ns) else decide (i ∈ ns))) := fun c G H v1 v2 g j r1 r2 Q q => by
  cases r1
  cases r2 with
  | tup h2 l2 =>
    obtain rfl := l2.ints
    refine ⟨_, _, rfl, .inr (sqT_of g h2), rfl, flat_ints ns, ?_⟩
    rw [inV_ints]
    exact q.here g j (.bl _)
theorem rd_inL {neg : Bool} {i : Int} {ns : List Int} : RD2 W (rIn K neg) (.int i) (dLI ns) (.bl (if neg then !decide (i ∈ ns) else decide (i ∈ ns))) := fun c G H v1 v2 g j r1 r2 Q q => by
  cases r1
  cases r2 with
  | lst h2 l2 =>
    obtain rfl := l2.ints
    refine ⟨_, _, rfl, .inl (sqL_of g h2), rfl, flat_ints ns, ?_⟩
    rw [inV_ints]
    exact q.here g j (.bl _)
theorem rd_ixL {ds : List D} {i : Nat} {d : D} (h : ds[i]? = some d) : RD2 W (rIx K) (.lst ds) (.int (i : Nat)) d := fun c G H v1 v2 g j r1 r2 Q q => by
  cases r2
  cases r1 with
  | lst h1 l1 =>
    obtain ⟨v, e, r⟩ := l1.get h
    exact .inl ⟨_, _, _, v, rfl, rfl, sqL_of g h1, atI_nat e, q.here g j r⟩
theorem rd_ixT {ds : List D} {i : Nat} {d : D} (h : ds[i]? = some d) : RD2 W (rIx K) (.tup ds) (.int (i : Nat)) d := fun c G H v1 v2 g j r1 r2 Q q => by
  cases r2
  cases r1 with
  | tup h1 l1 =>
    obtain ⟨v, e, r⟩ := l1.get h
    exact .inr (.inl ⟨_, _, _, v, rfl, rfl, sqT_of g h1, atI_nat e, q.here g j r⟩)
theorem rd_ixLast {ds : List D} {d : D} : RD2 W (rIx K) (.tup (ds ++ [d])) (.int (-1)) d := fun c G H v1 v2 g j r1 r2 Q q => by
  cases r2
  cases r1 with
  | tup h1 l1 =>
    obtain ⟨v, e, r⟩ := l1.get (i := ds.length) (d := d) (by simp)
    have hl := l1.len
    rw [List.length_append, List.length_singleton] at hl
    refine .inr (.inl ⟨_, _, _, v, rfl, rfl, sqT_of g h1, ?_, q.here g j r⟩)
    unfold atI ixN
    rw [hl, if_neg (by decide), if_pos (by omega), Option.bind_some, show ((-1 : Int) + ((ds.length + 1 : Nat) : Int)).toNat = ds.length by omega]
    exact e
theorem rdl_len {ds : List D} : RDL W (fun xs H Q => ∃ p ys, xs = [.ref p] ∧ (SqL K H p ys ∨ SqT K H p ys) ∧ Q (.int ys.length) H) [.lst ds] (.int ds.length) := fun c G H vs g j r Q q => by
  cases r with
  | cons r1 r2 =>
    cases r2
    cases r1 with
    | lst h1 l1 => exact ⟨_, _, rfl, .inl (sqL_of g h1), by rw [l1.len]; exact q.here g j (.int _)⟩
theorem rdl_lenT {ds : List D} : RDL W (fun xs H Q => ∃ p ys, xs = [.ref p] ∧ (SqL K H p ys ∨ SqT K H p ys) ∧ Q (.int ys.length) H) [.tup ds] (.int ds.length) := fun c G H vs g j r Q q => by
  cases r with
  | cons r1 r2 =>
    cases r2
    cases r1 with
    | tup h1 l1 => exact ⟨_, _, rfl, .inr (sqT_of g h1), by rw [l1.len]; exact q.here g j (.int _)⟩
theorem rdl_any {bs : List Bool} : RDL W (rAny K) [.lst (bs.map .bl)] (.bl (bs.any id)) := fun c G H vs g j r Q q => by
  cases r with
  | cons r1 r2 =>
    cases r2
    cases r1 with
    | lst h1 l1 =>
      obtain rfl := l1.bls
      exact ⟨_, _, rfl, sqL_of g h1, q.here g j (.bl _)⟩
theorem rdl_all {bs : List Bool} : RDL W (rAll K) [.lst (bs.map .bl)] (.bl (bs.all id)) := fun c G H vs g j r Q q => by
  cases r with
  | cons r1 r2 =>
    cases r2
    cases r1 with
    | lst h1 l1 =>
      obtain rfl := l1.bls
      exact ⟨_, _, rfl, sqL_of g h1, q.here g j (.bl _)⟩
theorem rdl_max2 {a b : Int} : RDL W (fun xs H Q => ∃ i j, xs = [.int i, .int j] ∧ Q (.int (if j > i then j else i)) H) [.int a, .int b] (.int (max a b)) := fun c G H vs g j r Q q => by
  cases r with
  | cons r1 r2 =>
    cases r2 with
    | cons r2 r3 =>
      cases r1; cases r2; cases r3
      refine ⟨a, b, rfl, ?_⟩
      have e : (if b > a then b else a) = max a b := by split <;> omega
      rw [e]
      exact q.here g j (.int _)
theorem rdl_min2 {a b : Int} : RDL W (fun xs H Q => ∃ i j, xs = [.int i, .int j] ∧ Q (.int (if j < i then j else i)) H) [.int a, .int b] (.int (min a b)) := fun c G H vs g j r Q q => by
  cases r with
  | cons r1 r2 =>
    cases r2 with
    | cons r2 r3 =>
      cases r1; cases r2; cases r3
      refine ⟨a, b, rfl, ?_⟩
      have e : (if b < a then b else a) = min a b := by split <;> omega
      rw [e]
      exact q.here g j (.int _)
theorem rdl_int {a : Int} : RDL W (fun xs H Q => (∃ i, xs = [.int i] ∧ Q (.int i) H) ∨ ∃ k, xs = [.bl k] ∧ Q (.int (if k then 1 else 0)) H) [.int a] (.int a) := fun c G H vs g j r Q q => by
  cases r with
  | cons r1 r2 =>
    cases r1; cases r2
    exact .inl ⟨a, rfl, q.here g j (.int _)⟩
theorem rdl_tupL {ds : List D} : RDL W (fun xs H Q => ∃ p ys, xs = [.ref p] ∧ ((SqL K H p ys ∧ ∀ l, H l = none → Q (.ref l) (upd H l (.tup ys))) ∨ (SqT K H p ys ∧ Q (.ref p) H))) [.lst ds] (.tup ds) := fun c G H vs g j r Q q => by
  cases r with
  | cons r1 r2 =>
    cases r2
    cases r1 with
    | lst h1 l1 => exact ⟨_, _, rfl, .inl ⟨sqL_of g h1, fun l hl => q.newT g j hl l1⟩⟩
theorem rdl_listL {ds : List D} : RDL W (fun xs H Q => ∃ p ys, xs = [.ref p] ∧ (SqL K H p ys ∨ SqT K H p ys) ∧ ∀ l, H l = none → Q (.ref l) (upd H l (.lst ys))) [.lst ds] (.lst ds) := fun c G H vs g j r Q q => by
  cases r with
  | cons r1 r2 =>
    cases r2
    cases r1 with
    | lst h1 l1 => exact ⟨_, _, rfl, .inl (sqL_of g h1), fun l hl => q.newL g j hl l1⟩
theorem rdl_listT {ds : List D} : RDL W (fun xs H Q => ∃ p ys, xs = [.ref p] ∧ (SqL K H p ys ∨ SqT K H p ys) ∧ ∀ l, H l = none → Q (.ref l) (upd H l (.lst ys))) [.tup ds] (.lst ds) := fun c G H vs g j r Q q => by
  cases r with
  | cons r1 r2 =>
    cases r2
    cases r1 with
    | tup h1 l1 => exact ⟨_, _, rfl, .inr (sqT_of g h1), fun l hl => q.newL g j hl l1⟩
/-- range(a, b) as a list of data -/
def rgD (a b : Int) : List Int := (List.range (b - a).toNat).map fun i => a + (i : Nat)
theorem rgV_eq {a b : Int} : rgV a b = (rgD a b).map V.int := by unfold rgV rgD; rw [List.map_map]; rfl
theorem ed_listRg1 {ta : TE} {env : Env'} {b : Int} (h : ED W ta env (.int b)) (hb : 0 ≤ b ∧ b ≤ 10000) : ED W (tLstRg (tRg1 ta)) env (dLI (rgD 0 b)) := fun c G0 H0 σ G H A Q q =>
  h c G0 H0 σ G H A _ fun v G1 H1 s1 g1 j1 r1 => by
    cases r1
    refine ⟨b, rfl, .of_le (Int.le_refl 0) (by omega) (by omega) hb.1, fun p hp => ?_⟩
    rw [rgV_eq]
    exact q (.ref p) _ _ (s1.trans (stp_new g1 hp)) (gok_new g1 j1 hp (noTb_lst _)) (J_new j1 hp) (.lst upd_same (RpL.of_ints _))
theorem ed_tupRg1 {ta : TE} {env : Env'} {b : Int} (h : ED W ta env (.int b)) (hb : 0 ≤ b ∧ b ≤ 10000) : ED W (tTupRg (tRg1 ta)) env (dI (rgD 0 b)) := fun c G0 H0 σ G H A Q q =>
  h c G0 H0 σ G H A _ fun v G1 H1 s1 g1 j1 r1 => by
    cases r1
    refine ⟨b, rfl, .of_le (Int.le_refl 0) (by omega) (by omega) hb.1, fun p hp => ?_⟩
    rw [rgV_eq]
    exact q (.ref p) _ _ (s1.trans (stp_new g1 hp)) (gok_new g1 j1 hp (noTb_tup _)) (J_new j1 hp) (.tup upd_same (RpL.of_ints _))
theorem ed_listRg2 {ta tb : TE} {env : Env'} {a b : Int} (h : ED W ta env (.int a)) (h' : ED W tb env (.int b)) (hb : 0 ≤ a ∧ a ≤ 10000 ∧ 0 ≤ b ∧ b ≤ 10000) : ED W (tLstRg (tRg2 ta tb)) env (dLI (rgD a b)) := fun c G0 H0 σ G H A Q q =>
  h c G0 H0 σ G H A _ fun v G1 H1 s1 g1 j1 r1 => h' c G0 H0 σ G1 H1 (A.step s1 g1 j1) _ fun v2 G2 H2 s2 g2 j2 r2 => by
    cases r1; cases r2
    refine ⟨a, b, rfl, rfl, .of_le (by omega) (by omega) (by omega) (by omega), fun p hp => ?_⟩
    rw [rgV_eq]
    exact q (.ref p) _ _ ((s1.trans s2).trans (stp_new g2 hp)) (gok_new g2 j2 hp (noTb_lst _)) (J_new j2 hp) (.lst upd_same (RpL.of_ints _))
theorem ed_tupRg2 {ta tb : TE} {env : Env'} {a b : Int} (h : ED W ta env (.int a)) (h' : ED W tb env (.int b)) (hb : 0 ≤ a ∧ a ≤ 10000 ∧ 0 ≤ b ∧ b ≤ 10000) : ED W (tTupRg (tRg2 ta tb)) env (dI (rgD a b)) := fun c G0 H0 σ G H A Q q =>
  h c G0 H0 σ G H A _ fun v G1 H1 s1 g1 j1 r1 => h' c G0 H0 σ G1 H1 (A.step s1 g1 j1) _ fun v2 G2 H2 s2 g2 j2 r2 => by
    cases r1; cases r2
    refine ⟨a, b, rfl, rfl, .of_le (by omega) (by omega) (by omega) (by omega), fun p hp => ?_⟩
    rw [rgV_eq]
    exact q (.ref p) _ _ ((s1.trans s2).trans (stp_new g2 hp)) (gok_new g2 j2 hp (noTb_tup _)) (J_new j2 hp) (.tup upd_same (RpL.of_ints _))
/-- isinstance(x, C) -/
inductive TyD : D → String → Prop
  | non : TyD .non "NoneType"
  | bl (b : Bool) : TyD (.bl b) "bool"
  | int (i : Int) : TyD (.int i) "int"
  | str (s : Str) : TyD (.str s) "str"
  | tup (ds : List D) : TyD (.tup ds) "tuple"
  | lst (ds : List D) : TyD (.lst ds) "list"
  | dic (kvs : List (Key × D)) : TyD (.dic kvs) "dict"
theorem TyD.tyx {d : D} {t : String} (h : TyD d t) (g : GOk W G H) {v : V} (r : Rp G v d) : TyX K H v (.type t) := by
  cases h with
  | non => cases r; exact .base .non
  | bl b => cases r; exact .base (.bl b)
  | int b => cases r; exact .base (.int b)
  | str b => cases r; exact .base (.str b)
  | tup ds => cases r with | tup h1 l1 => exact .base (.tup (g.same _ _ h1))
  | lst ds => cases r with | lst h1 l1 => exact .base (.lst (g.same _ _ h1))
  | dic ds => cases r with | dic h1 l1 => exact .fDict (g.same _ _ h1)
theorem rdl_isi {d : D} {t C : String} {b : Bool} (h : TyD d t) (hk : PySem.W.kitOne K (.type t) (.type C) = some b) : RDL W (rIsi K) [d, .raw (.ty C)] (.bl b) := fun c G H vs g j r Q q => by
  cases r with
  | cons r1 r2 =>
    cases r2 with
    | cons r2 r3 =>
      cases r3; cases r2
      exact ⟨_, _, _, _, b, rfl, .ty C, h.tyx g r1, hk, q.here g j (.bl _)⟩
theorem rdl_isiT {d : D} {t : String} {Cs : List String} {b : Bool} (h : TyD d t) (hk : PySem.W.kitAny K (.type t) (Cs.map Value.type) = some b) : RDL W (rIsiT K) [d, .tup (Cs.map fun C => .raw (.ty C))] (.bl b) := fun c G H vs g j r Q q => by
  cases r with
  | cons r1 r2 =>
    cases r2 with
    | cons r2 r3 =>
      cases r3
      cases r2 with
      | tup h2 l2 =>
        have e : ∀ (Cs : List String) xs, RpL G xs (Cs.map fun C => D.raw (.ty C)) → Paired ClsV xs (Cs.map Value.type) := by
          intro Cs
          induction Cs with
          | nil => intro xs h; cases h; exact .nil
          | cons C r ih =>
            intro xs h
            cases h with
            | cons h1 h2 =>
              cases h1
              exact .cons (.ty C) (ih _ h2)
        exact ⟨_, _, _, _, _, b, rfl, g.same _ _ h2, e Cs _ l2, h.tyx g r1, hk, q.here g j (.bl _)⟩
/-- slices -/
def EO (W : Wld T) (to : TO) (env : Env') (o : Option Int) : Prop := ∀ c G0 H0 σ G H, At W G0 H0 c G H σ env → ∀ Q : Option Int → Hp → Prop, (∀ G2 H2, Stp W G H G2 H2 → GOk W G2 H2 → W.J c H2 → Q o H2) → to σ H Q
theorem eo_none {env : Env'} : EO W tNoPart env none := fun c G0 H0 σ G H A Q q => q G H Stp.refl A.gok A.j
theorem eo_some {te : TE} {env : Env'} {i : Int} (h : ED W te env (.int i)) : EO W (tPart te) env (some i) := fun c G0 H0 σ G H A Q q => h c G0 H0 σ G H A _ fun v G1 H1 s1 g1 j1 r1 => by
  cases r1
  exact ⟨i, rfl, q G1 H1 s1 g1 j1⟩
def cutD (xs : List D) (lo hi : Option Int) : List D := (xs.drop (HT.sIx xs.length 0 lo)).take (HT.sIx xs.length xs.length hi - HT.sIx xs.length 0 lo)
theorem ed_slL {te : TE} {tl th : TO} {env : Env'} {ds : List D} {lo hi : Option Int} (h : ED W te env (.lst ds)) (hl : EO W tl env lo) (hh : EO W th env hi) : ED W (tSl (rSlL K) te tl th) env (.lst (cutD ds lo hi)) := fun c G0 H0 σ G H A Q q =>
  h c G0 H0 σ G H A _ fun v G1 H1 s1 g1 j1 r1 => hl c G0 H0 σ G1 H1 (A.step s1 g1 j1) _ fun G2 H2 s2 g2 j2 => hh c G0 H0 σ G2 H2 ((A.step s1 g1 j1).step s2 g2 j2) _ fun G3 H3 s3 g3 j3 => by
    cases r1 with
    | @lst a xs _ h1 l1 =>
      have hG := s3.gg _ _ (s2.gg _ _ h1)
      have l3 := (l1.mono s2.gg).mono s3.gg
      refine ⟨_, xs, rfl, sqL_of g3 hG, fun p hp => ?_⟩
      have e : RpL G3 (cutV xs lo hi) (cutD ds lo hi) := by
        unfold cutV cutD
        rw [l3.len]
        exact RpL.take _ (RpL.drop _ l3)
      exact q (.ref p) _ _ (((s1.trans s2).trans s3).trans (stp_new g3 hp)) (gok_new g3 j3 hp (noTb_lst _)) (J_new j3 hp) (.lst upd_same (e.mono (same_new (g3.none hp) _)))
theorem ed_slT {te : TE} {tl th : TO} {env : Env'} {ds : List D} {lo hi : Option Int} (h : ED W te env (.tup ds)) (hl : EO W tl env lo) (hh : EO W th env hi) : ED W (tSl (rSlA K) te tl th) env (.tup (cutD ds lo hi)) := fun c G0 H0 σ G H A Q q =>
  h c G0 H0 σ G H A _ fun v G1 H1 s1 g1 j1 r1 => hl c G0 H0 σ G1 H1 (A.step s1 g1 j1) _ fun G2 H2 s2 g2 j2 => hh c G0 H0 σ G2 H2 ((A.step s1 g1 j1).step s2 g2 j2) _ fun G3 H3 s3 g3 j3 => by
    have r3 := (r1.mono s2.gg).mono s3.gg
    cases r1 with
    | @tup a xs _ h1 l1 =>
      have hG := s3.gg _ _ (s2.gg _ _ h1)
      have l3 := (l1.mono s2.gg).mono s3.gg
      have e : RpL G3 (cutV xs lo hi) (cutD ds lo hi) := by
        unfold cutV cutD
        rw [l3.len]
        exact RpL.take _ (RpL.drop _ l3)
      refine ⟨_, xs, rfl, sqT_of g3 hG, fun w => ?_, fun _ p hp => ?_⟩
      · have ew : cutD ds lo hi = ds := by
          unfold cutD
          rw [l3.len] at w
          rw [w.1, w.2, List.drop_zero, Nat.sub_zero, List.take_length]
        rw [ew] at q
        exact q _ _ _ ((s1.trans s2).trans s3) g3 j3 r3
      · exact q (.ref p) _ _ (((s1.trans s2).trans s3).trans (stp_new g3 hp)) (gok_new g3 j3 hp (noTb_tup _)) (J_new j3 hp) (.tup upd_same (e.mono (same_new (g3.none hp) _)))
/-- a < b < c -/
theorem et_chain {r r' : R2} {ta tb tc : TE} {env : Env'} {d1 d2 d3 : D} {a b : Bool} (h1 : ED W ta env d1) (h2 : ED W tb env d2) (h3 : a = true → ED W tc env d3) (hr : RD2 W r d1 d2 (.bl a)) (hr' : a = true → RD2 W r' d2 d3 (.bl b)) : ED W (tChain r r' ta tb tc) env (.bl (a && b)) := fun c G0 H0 σ G H A Q q =>
  h1 c G0 H0 σ G H A _ fun v1 G1 H1 s1 g1 j1 r1 => h2 c G0 H0 σ G1 H1 (A.step s1 g1 j1) _ fun v2 G2 H2 s2 g2 j2 r2 =>
    hr c G2 H2 v1 v2 g2 j2 (r1.mono s2.gg) r2 _ fun v G3 H3 s3 g3 j3 r3 => by
      cases r3
      refine ⟨a, rfl, ?_⟩
      cases a with
      | false => exact q _ G3 H3 ((s1.trans s2).trans s3) g3 j3 (.bl _)
      | true =>
        refine h3 rfl c G0 H0 σ G3 H3 (((A.step s1 g1 j1).step s2 g2 j2).step s3 g3 j3) _ fun v3 G4 H4 s4 g4 j4 r4 => ?_
        exact hr' rfl c G4 H4 v2 v3 g4 j4 ((r2.mono s3.gg).mono s4.gg) r4 Q fun v G5 H5 s5 g5 j5 r5 => q v G5 H5 ((((s1.trans s2).trans s3).trans s4).trans s5) g5 j5 r5

/-! ### defs -/
/-- a def that makes data of data and leaves all as it was -/
def SpD (T : List (Addr × Str)) (f : List D → D → Prop) : Sp := fun vs H Q _ => ∃ G ds d, GOk (W0 T) G H ∧ LamX.Tabs T H ∧ RpL G vs ds ∧ f ds d ∧
  ∀ v G2 H2, Stp (W0 T) G H G2 H2 → GOk (W0 T) G2 H2 → LamX.Tabs T H2 → Rp G2 v d → Q v H2
def CAP : Nat := 2 ^ 40
/-- a def that may draw, at most k times -/
def SpS (W : Wld T) (k : Nat) (f : List D → (D → Prop) → Prop) : Sp := fun vs H Q _ => ∃ G c ds P, GOk W G H ∧ W.J c H ∧ c + k ≤ CAP ∧ RpL G vs ds ∧ f ds P ∧
  ∀ v d G2 H2, Stp W G H G2 H2 → GOk W G2 H2 → W.J (c + k) H2 → Rp G2 v d → P d → Q v H2
theorem ed_call {f : List D → D → Prop} {E : XK} {ta : TA} {env : Env'} {ds : List D} {d : D} (h : EA W ta env ds) (hf : f ds d) : ED W (tCall (SpD T f) [] E ta) env d := fun c G0 H0 σ G H A Q q =>
  h c G0 H0 σ G H A _ fun vs G1 H1 s1 g1 j1 r1 => by
    rw [List.append_nil]
    exact ⟨G1, ds, d, g1.drop, W.tabs j1, r1, hf, fun v G2 H2 s g t r => q v G2 H2 (s1.trans s.lift) (g1.lift j1 s g) (J_lift j1 s t) r⟩
theorem en_callD {f : List D → D → Prop} {E : XK} {ta : TA} {env : Env'} {Pa : List D → Prop} {P : D → Prop} (h : EAN W ta env c k Pa) (hf : ∀ ds, Pa ds → ∃ d, f ds d ∧ P d) : EN W (tCall (SpD T f) [] E ta) env c k P := fun G0 H0 σ G H A Q q =>
  h G0 H0 σ G H A _ fun vs ds G1 H1 s1 g1 j1 r1 p => by
    obtain ⟨d, hd, pd⟩ := hf ds p
    rw [List.append_nil]
    exact ⟨G1, ds, d, g1.drop, W.tabs j1, r1, hd, fun v G2 H2 s g t r => q v d G2 H2 (s1.trans s.lift) (g1.lift j1 s g) (J_lift j1 s t) r pd⟩
theorem en_call {f : List D → (D → Prop) → Prop} {E : XK} {ta : TA} {env : Env'} {n : Nat} {Pa : List D → Prop} {P : D → Prop} (h : EAN W ta env c n Pa) (hf : ∀ ds, Pa ds → f ds P) (hc : c + n + k ≤ CAP) : EN W (tCall (SpS W k f) [] E ta) env c (n + k) P := fun G0 H0 σ G H A Q q =>
  h G0 H0 σ G H A _ fun vs ds G1 H1 s1 g1 j1 r1 p => by
    rw [List.append_nil]
    exact ⟨G1, c + n, ds, P, g1, j1, hc, r1, hf ds p, fun v d G2 H2 s g t r pd => q v d G2 H2 (s1.trans s) g (by rw [← Nat.add_assoc]; exact t) r pd⟩
def env0 (ds : List D) (n : Nat) : Env' := ds.map .dat ++ List.replicate n .emp
theorem env0_get {ds : List D} {n i : Nat} {d : D} (h : (env0 ds n)[i]? = some (.dat d)) : ds[i]? = some d := by
  unfold env0 at h
  by_cases hi : i < ds.length
  · rw [List.getElem?_append_left (by simpa using hi), List.getElem?_map] at h
    cases q : ds[i]? with
    | none => rw [q] at h; cases h
    | some e => rw [q] at h; cases h; rfl
  · rw [List.getElem?_append_right (by simpa using hi), List.getElem?_replicate] at h
    split at h <;> cases h
theorem env0_mu {ds : List D} {n i : Nat} {es : List D} (h : (env0 ds n)[i]? = some (.mu es)) : False := by
  unfold env0 at h
  by_cases hi : i < ds.length
  · rw [List.getElem?_append_left (by simpa using hi), List.getElem?_map] at h
    cases q : ds[i]? with
    | none => rw [q] at h; cases h
    | some e => rw [q] at h; cases h
  · rw [List.getElem?_append_right (by simpa using hi), List.getElem?_replicate] at h
    split at h <;> cases h
theorem at_start {N : List Str} {vs : List V} {ds : List D} (g : GOk W G H) (j : W.J c H) (r : RpL G vs ds) (hn : ds.length ≤ N.length) : At W (G, G) H c G H (L2.start N vs) (env0 ds (N.length - ds.length)) := by
  have hl := r.len
  refine ⟨Stp.refl, fun _ _ h => h, g, j, ?_, fun i d h => ?_, fun i es h => (env0_mu h).elim, fun i _ es _ _ _ h => (env0_mu h).elim⟩
  · unfold L2.start env0
    rw [List.length_append, List.length_append, List.length_map, List.length_map, List.length_replicate, List.length_replicate, hl]
  · have hd := env0_get h
    obtain ⟨v, e, rv⟩ := r.get hd
    have hi : i < vs.length := (List.getElem?_eq_some_iff.mp e).1
    refine ⟨v, ?_, rv⟩
    unfold L2.start
    rw [List.getElem?_append_left (by simpa using hi), List.getElem?_map, e]
    rfl
/-- a body that keeps its promise -/
theorem body_D {f : List D → D → Prop} {t : TS} {N : List Str} {vs : List V} {Q : VK} {E : XK} (h : SpD T f vs H Q E) (hn : vs.length ≤ N.length) (hb : ∀ ds d, f ds d → Tr (W0 T) t (env0 ds (N.length - ds.length)) 0 ⟨fun _ _ => d = .non, fun r _ => r = d, fun _ _ => False, fun _ _ => False⟩) :
    t { nx := fun _ H' => Q .non H', rt := Q } (L2.start N vs) H := by
  obtain ⟨G, ds, d, g, tb, r, hf, q⟩ := h
  refine hb ds d hf (G, G) H _ G H (at_start (W := W0 T) (c := 0) g tb r (by rw [← r.len]; exact hn)) _ ⟨fun σ2 e2 c2 G2 H2 A2 e => ?_, fun v d2 c2 G2 H2 s g j r e => ?_, fun _ _ _ _ _ _ z => z.elim, fun _ _ _ _ _ _ z => z.elim⟩
  · exact q .non G2 H2 A2.st A2.gok A2.j (by rw [e]; exact .non)
  · subst e
    exact q v G2 H2 s g j r
theorem body_S {f : List D → (D → Prop) → Prop} {t : TS} {N : List Str} {vs : List V} {Q : VK} {E : XK} (h : SpS W k f vs H Q E) (hn : vs.length ≤ N.length) (hb : ∀ ds P c, f ds P → c + k ≤ CAP → Tr W t (env0 ds (N.length - ds.length)) c ⟨fun _ c2 => P .non ∧ c2 ≤ c + k, fun r c2 => P r ∧ c2 ≤ c + k, fun _ _ => False, fun _ _ => False⟩) :
    t { nx := fun _ H' => Q .non H', rt := Q } (L2.start N vs) H := by
  obtain ⟨G, c, ds, P, g, j, hc, r, hf, q⟩ := h
  refine hb ds P c hf hc (G, G) H _ G H (at_start g j r (by rw [← r.len]; exact hn)) _ ⟨fun σ2 e2 c2 G2 H2 A2 e => ?_, fun v d2 c2 G2 H2 s g j r e => ?_, fun _ _ _ _ _ _ z => z.elim, fun _ _ _ _ _ _ z => z.elim⟩
  · exact q .non .non G2 H2 A2.st A2.gok (W.mono e.2 A2.j) .non e.1
  · exact q v d2 G2 H2 s g (W.mono e.2 j) r e.1
/-- while -/
theorem tr_while {tt : TT} {tb : TS} {env : Env'} {po : Po} (Iv : Nat → Env' → Nat → Prop) (m0 : Nat) (h0 : Iv m0 env c)
    (hs : ∀ m e1 c1, Iv m e1 c1 → ∃ b, ET W tt e1 b ∧ (b = true → Tr W tb e1 c1 { po with nx := fun e2 c2 => ∃ m', m' < m ∧ Iv m' e2 c2, ct := fun e2 c2 => ∃ m', m' < m ∧ Iv m' e2 c2, bk := po.nx }) ∧ (b = false → po.nx e1 c1)) : Tr W (tWhile tt tb) env c po := by
  intro G0 H0 σ G H A E F
  refine ⟨fun m σ' H' => ∃ G' e1 c1, At W G0 H0 c1 G' H' σ' e1 ∧ Iv m e1 c1, ⟨m0, G, env, c, A, h0⟩, ?_⟩
  rintro m σ' H' ⟨G', e1, c1, A', iv⟩
  obtain ⟨b, ht, h1, h2⟩ := hs m e1 c1 iv
  refine ht c1 G0 H0 σ' G' H' A' _ fun G2 H2 s2 g2 j2 => ?_
  cases b with
  | true =>
    refine (if_pos rfl).mpr ?_
    refine ⟨fun σ'' H'' => ∃ m', m' < m ∧ ∃ G' e1 c1, At W G0 H0 c1 G' H'' σ'' e1 ∧ Iv m' e1 c1, fun σ'' H'' ⟨m', h, r⟩ => ⟨m', h, r⟩, ?_⟩
    refine h1 rfl _ _ _ _ _ (A'.step s2 g2 j2) _ ⟨fun σ4 e4 c4 G4 H4 A4 ⟨m', hm, q⟩ => ⟨m', hm, G4, e4, c4, A4, q⟩, F.rt, fun σ4 e4 c4 G4 H4 A4 q => F.nx _ _ _ _ _ A4 q, fun σ4 e4 c4 G4 H4 A4 ⟨m', hm, q⟩ => ⟨m', hm, G4, e4, c4, A4, q⟩⟩
  | false =>
    refine (if_neg Bool.false_ne_true).mpr ?_
    exact F.nx _ _ _ _ _ (A'.step s2 g2 j2) (h2 rfl)
end
end Fx

set_option Elab.async false
set_option linter.all false
set_option maxRecDepth 100000
set_option maxHeartbeats 4000000
/-! A lambda of one name as a key: min(l, key=lambda x: ..), sorted(l, key=lambda x: ..). -/
namespace Fx
open PySem PySem.Spec PyProof.Rows L2 LamX

/-- one parameter p, no other name of its own -/
structure LamS1 (sc scope : Scope) (p : Str) : Prop where
  kind : scope.kind = .function
  co : scope.isCoroutine = false
  gen : scope.isGenerator = false
  own : ∀ y ∈ scope.names, y.2 = .local → y.1 = p
  nocell : ∀ y ∈ scope.names, y.2 ≠ .cell
  par : scope.names.lookup p = some .local
  free : ∀ y ∈ scope.names, y.2 = .free → sc.names.lookup y.1 = some .cell ∨ sc.names.lookup y.1 = some .free
def lamS1B (sc scope : Scope) (p : Str) : Bool :=
  decide (scope.kind = .function) && !scope.isCoroutine && !scope.isGenerator && decide (scope.names.lookup p = some .local) && scope.names.all fun y => (!decide (y.2 = .local) || decide (y.1 = p)) && !decide (y.2 = .cell) && (!decide (y.2 = .free) || decide (sc.names.lookup y.1 = some .cell) || decide (sc.names.lookup y.1 = some .free))
theorem lamS1_by {sc scope : Scope} {p : Str} (h : lamS1B sc scope p = true) : LamS1 sc scope p := by
  unfold lamS1B at h
  simp only [Bool.and_eq_true, Bool.or_eq_true, Bool.not_eq_true', decide_eq_true_eq, decide_eq_false_iff_not, List.all_eq_true] at h
  obtain ⟨⟨⟨⟨h1, h2⟩, h3⟩, h5⟩, h4⟩ := h
  refine ⟨h1, h2, h3, fun y hy e => ?_, fun y hy => (h4 y hy).1.2, h5, fun y hy e => ?_⟩
  · exact (h4 y hy).1.1.resolve_left fun z => z e
  · rcases (h4 y hy).2 with (z | z) | z
    · exact absurd e z
    · exact .inl z
    · exact .inr z
theorem LamS1.has {X : Cx} {scope : Scope} {p : Str} (L : LamS1 X.env.scope scope p) (ok : X.Ok) : ∀ y ∈ scope.names, y.2 = .free → ∃ c, X.env.cells.lookup y.1 = some c := fun y hy e => by
  rcases L.free y hy e with k | k
  · exact ok.has _ (.inl k)
  · exact ok.has _ (.inr k)
/-- the context of the lambda's body, called at s by a built-in of X's frame -/
def lamCx1 (X : Cx) (A : Around) (s : Shared) (H : Hp) (scope : Scope) (f c' : Addr) : Cx where
  prog := X.prog
  w := X.w
  K := X.K
  mg := X.mg
  base := X.base
  A := A.deeper (lamEnv X scope s.heap.objs.size f c')
  N := X.N
  s_0 := s
  H_0 := H
  env := lamEnv X scope s.heap.objs.size f c'
  outer := X.stack
  stack := lamEnv X scope s.heap.objs.size f c' :: X.stack
  ex := []
  fn := fun _ => false
  calm := true
  pn := []
  xe := fun _ _ => False
section
variable {X : Cx} {pins : List (Addr × Obj)} {σ : L2.St} {H : Hp} {s : Shared}
theorem lam_start1 {A : Around} {scope : Scope} {p : Str} {j : Nat} {x : V} {v : Value} {f c' : Addr} {h₁ : Heap} {tk : Nat} (I : Inv X pins σ H s) (L : LamS1 X.env.scope scope p) (hN : X.N.Nodup) (hj : X.N[j]? = some p) (rv : RelV x v) (hA : A.frames = some X.stack) (hd : A.handled = none)
    (hns : h₁.Ns s.heap.objs.size fun y => ([(p, v)] : List (Str × Value)).reverse.lookup y) (kp : ∀ b o, s.heap.get? b = some o → h₁.get? b = some o) :
    Inv (lamCx1 X A s H scope f c') [] (σ.set j (some x)) H { s with heap := h₁, toks := tk } := by
  have hfree := L.has I.ok
  have cm : ∀ {y c}, (cloFrom X.env.cells scope.names []).lookup y = some c → X.env.cells.lookup y = some c := fun {y c} e => by
    rcases cloFrom_mem (PySem.mem_of_lookup e) with hm | ⟨h1, h2⟩
    · cases hm
    · obtain ⟨c1, hc⟩ := hfree _ h1 rfl
      have hc : X.env.cells.lookup y = some c1 := hc
      have e2 : c = c1 := by
        rw [h2, hc] <;> rfl
      rw [e2]
      exact hc
  have look : ∀ {y}, scope.names.lookup y = some .free → ∃ c, (cloFrom X.env.cells scope.names []).lookup y = some c := fun {y} hl => by
    have hy : (y, NameKind.free) ∈ scope.names := PySem.mem_of_lookup hl
    exact mem_lookup (cloFrom_has (cells := X.env.cells) (acc := []) hy)
  have cellK : ∀ {c : Addr} {v : Option Value}, s.heap.IsCell c v → h₁.IsCell c v := fun {c v} ⟨o, ho, hd⟩ => ⟨o, kp _ _ ho, hd⟩
  have noA : ∀ b : Addr, b ∉ (lamCx1 X A s H scope f c').ex := fun b z => absurd (show b ∈ ([] : List Addr) from z) (by simp)
  refine ⟨⟨I.ok.mod, L.kind, rfl, rfl, Nat.le_refl _, fun y z c e1 e2 => I.ok.inj y z c (cm e1) (cm e2), fun y hy => ?_, fun y c z _ => ?_, fun _ => hd, Around.frames_deeper hA, .inr ⟨rfl, rfl⟩, fun b z => absurd z (noA b), I.bs, Nat.le_trans I.ok.bsz I.sz, fun b _ _ => noA b,
      fun b z => absurd z (noA b), I.stack, I.stkFree⟩,
    rfl, I.bare, Un.kept kp, ⟨_, hns, fun i y w e1 e2 e3 => ?_⟩, fun y c e => ?_, I.hok.fresh (Nat.le_refl _), fun y c e => I.freeC y c (cm e), fun q hq => absurd (show q ∈ ([] : List (Addr × Obj)) ++ [] from hq) (by simp), I.hok.kept kp, by rw [List.length_set]; exact I.len⟩
  · have hy : scope.names.lookup y = some .cell ∨ scope.names.lookup y = some .free := hy
    rcases hy with hy | hy
    · exact absurd rfl (L.nocell _ (PySem.mem_of_lookup hy))
    · exact look hy
  · have z : false = true := z
    cases z
  · have e1 : X.N[i]? = some y := e1
    by_cases hij : i = j
    · subst hij
      rw [hj] at e1
      cases e1
      have hi : i < σ.length := by rw [I.len]; exact (List.getElem?_eq_some_iff.mp hj).1
      rw [List.getElem?_set_self hi] at e2
      cases e2
      exact ⟨v, rv, .inl ⟨L.par, by show ([(p, v)] : List (Str × Value)).lookup p = some v; simp⟩⟩
    · rw [List.getElem?_set_ne (Ne.symm hij)] at e2
      have ne : y ≠ p := fun e => hij (nodup_ix hN e1 (e ▸ hj))
      have e3 : Vis scope y := e3
      rcases e3 with k | k | k
      · exact absurd (L.own _ (PySem.mem_of_lookup k) rfl) ne
      · exact absurd rfl (L.nocell _ (PySem.mem_of_lookup k))
      · obtain ⟨m, hn, hl⟩ := I.loc
        have hvis : Vis X.env.scope y := (L.free _ (PySem.mem_of_lookup k) rfl).elim (fun k => .inr (.inl k)) (fun k => .inr (.inr k))
        obtain ⟨w', r, q⟩ := hl i y w e1 e2 hvis
        obtain ⟨c2, h2⟩ := look k
        refine ⟨w', r, .inr ⟨.inr k, c2, h2, ?_⟩⟩
        have c1 := cm h2
        rcases q with ⟨k', _⟩ | ⟨_, c3, e', z⟩
        · have k' : X.env.scope.names.lookup y = some .local := k'
          rcases L.free _ (PySem.mem_of_lookup k) rfl with k2 | k2 <;> rw [show X.env.scope.names.lookup y = _ from k2] at k' <;> cases k'
        · rw [c1] at e'
          cases e'
          exact cellK z
  · obtain ⟨w', z⟩ := I.cell y c (cm e)
    exact ⟨w', cellK z⟩
/-- the lambda at f, called with one value by a built-in of this frame -/
theorem lam_call1 {A : Around} {scope : Scope} {p : Str} {j k : Nat} {x : V} {v : Value} {f c' : Addr} {pm ctv : Value} {params : Arguments} {body : Expr} {tb : TE} {Q : VK} {E : Value → Shared → Prop} (I : Inv X pins σ H s) (L : LamS1 X.env.scope scope p) (hN : X.N.Nodup) (hj : X.N[j]? = some p) (rv : RelV x v) (hA : A.frames = some X.stack) (hr : Room (k + 1) A)
    (hf : s.heap.get? f = some (PySem.W.kla_obj "<lambda>" (X.env.qual ++ "<lambda>") params body scope (cloFrom X.env.cells scope.names []) pm c' ctv)) (hco : H c' = some (CodeO c' (X.env.qual ++ "<lambda>")))
    (hbind : bindArgs (PySem.W.kla_fn "<lambda>" (X.env.qual ++ "<lambda>") params body scope (cloFrom X.env.cells scope.names []) pm (.ref c') ctv) ⟨[v], []⟩ = pure [(p, v)])
    (hbody : ∀ (s : Shared) (H : Hp), Room k (A.deeper (lamEnv X scope s.heap.objs.size f c')) → PE (lamCx1 X A s H scope f c') body tb) (h : tb (σ.set j (some x)) H Q) : wpAny (model X.prog X.w) A (call (.ref f) [v]) (EP X pins σ Q) E s := by
  obtain ⟨⟨oc, vs, t, hoc, hdc, hvc⟩, _, _⟩ := I.hok c' _ hco
  have rc : codeAny (model X.prog X.w) A (.call (.ref f) ⟨[v], []⟩) (CR C8.CX0 X.stack X.prog X.w H s Q C8.E0) s := by
    refine PySem.W.kla_callFunE hr.depth hf rfl L.co L.gen rfl ⟨c', oc, vs, t, rfl, hoc, hdc, hvc⟩ ?_
    rw [hbind]
    refine wpAny_pure (wpAny_newFunctionEnv (fun y hy => L.nocell y hy) (fun y hy => ?_) (fun h₁ hns hsb => ⟨I.nolimit.fresh _ hsb, ?_⟩) L.kind)
    · rw [List.mem_singleton.mp hy]
      exact L.par
    show codeAny _ _ (.expr body (lamEnv X scope s.heap.objs.size f c')) _ _
    have kp : ∀ b o, s.heap.get? b = some o → h₁.get? b = some o := fun b o e => hsb.extBut b o (Nat.ne_of_lt (Heap.lt_size e)) (Heap.get?_push_of_some _ e)
    have J : Inv (lamCx1 X A s H scope f c') [] (σ.set j (some x)) H { s with heap := h₁, toks := s.toks + ([(p, v)] : List (Str × Value)).length } := lam_start1 I L hN hj rv hA hr.hd hns kp
    refine PySem.W.kla_codeExpr (wpAny_mono ((hbody s H (hr.deeper _)).run [] _ _ H Q J h) (fun v s' hq => ?_) fun e s' hq => False.elim hq)
    obtain ⟨w', H', J', rv, q⟩ := hq
    exact ⟨w', H', J'.os, J'.bare, J'.base, J'.hok, rv, q⟩
  refine wpAny_call (codeAny_mono rc fun r s' hq => ?_)
  cases r with
  | error e => exact False.elim hq
  | ok fl =>
    cases fl with
    | ret u => exact I.after hq
    | next => exact False.elim hq
    | brk => exact False.elim hq
    | cont => exact False.elim hq
end
theorem swo_int : SrtO.Swo (fun a b : Int => decide (a < b)) := ⟨fun x y h => by simp at h ⊢; omega, fun x y z h1 h2 => by simp at h1 h2 ⊢; omega⟩
theorem lex_asym : ∀ x y : List Int, HT.lexLt x y = true → HT.lexLt y x = false
  | [], [], h => by simp [HT.lexLt] at h
  | [], _ :: _, _ => by simp [HT.lexLt]
  | _ :: _, [], h => by simp [HT.lexLt] at h
  | a :: x, b :: y, h => by
    unfold HT.lexLt at h ⊢
    by_cases e : a = b
    · rw [if_pos e] at h
      rw [if_pos e.symm]
      exact lex_asym x y h
    · rw [if_neg e] at h
      rw [if_neg (Ne.symm e)]
      simp at h ⊢
      omega
theorem lex_neg : ∀ x y z : List Int, HT.lexLt y x = false → HT.lexLt z y = false → HT.lexLt z x = false
  | _, _, [], h1, h2 => by
    rename_i x y
    cases x with
    | nil => simp [HT.lexLt]
    | cons a x =>
      cases y with
      | nil => simp [HT.lexLt] at h1
      | cons b y => simp [HT.lexLt] at h2
  | [], _, _ :: _, _, _ => by simp [HT.lexLt]
  | a :: x, [], c :: z, h1, h2 => by simp [HT.lexLt] at h1
  | a :: x, b :: y, c :: z, h1, h2 => by
    unfold HT.lexLt at h1 h2 ⊢
    by_cases e1 : b = a
    · rw [if_pos e1] at h1
      subst e1
      by_cases e2 : c = b
      · rw [if_pos e2] at h2 ⊢
        exact lex_neg x y z h1 h2
      · rw [if_neg e2] at h2 ⊢
        exact h2
    · rw [if_neg e1] at h1
      by_cases e2 : c = b
      · rw [if_pos e2] at h2
        subst e2
        rw [if_neg e1]
        exact h1
      · rw [if_neg e2] at h2
        simp at h1 h2
        rw [if_neg (by omega)]
        simp
        omega
theorem swo_lexLt : SrtO.Swo HT.lexLt := ⟨lex_asym, lex_neg⟩
/-! ### the lambda as a new object -/
section
variable {X : Cx} {pins : List (Addr × Obj)} {σ : L2.St} {H : Hp} {s : Shared} {T : List (Addr × Str)}
abbrev lamObj (X : Cx) (params : Arguments) (body : Expr) (scope : Scope) (pm ctv : Value) (c' : Addr) : Obj := PySem.W.kla_obj "<lambda>" (X.env.qual ++ "<lambda>") params body scope (cloFrom X.env.cells scope.names []) pm c' ctv
/-- what is told of a lambda that has just been made -/
structure Made (X : Cx) (pins : List (Addr × Obj)) (σ : L2.St) (T : List (Addr × Str)) (H H1 : Hp) (s' : Shared) (params : Arguments) (body : Expr) (scope : Scope) (f c' : Addr) (pm ctv : Value) : Prop where
  inv : Inv X pins σ H1 s'
  ext : ExtN H H1
  tabs : Tabs T H1
  obj : s'.heap.get? f = some (lamObj X params body scope pm ctv c')
  fp : FpOk X pins H1 f
  code : H1 c' = some (CodeO c' (X.env.qual ++ "<lambda>"))
theorem lam_new {c P : Addr} {params : Arguments} {body : Expr} {scope : Scope} {pos : Pos} {E Q : Value → Shared → Prop} (I : Inv X pins σ H s) (TB : TabB X.base X.mg c P) (hcode : X.env.code = .ref c) (hm : (P, X.env.qual ++ "<lambda>") ∈ T) (hu : ∀ p ∈ T, p.1 = P → p.2 = X.env.qual ++ "<lambda>")
    (hT : Tabs T H) (hdef : defaultsOf params X.env = ([], [])) (hfree : ∀ y ∈ scope.names, y.2 = .free → ∃ c, X.env.cells.lookup y.1 = some c)
    (h : ∀ f c' pm ctv H1 s', Made X pins σ T H H1 s' params body scope f c' pm ctv → Q (.ref f) s') : wpAny (model X.prog X.w) X.A (eval (.Lambda params body scope pos) X.env) Q E s := by
  obtain ⟨ps, eP, trip, amo⟩ := hT _ hm
  have blt := TB.bm.keeps I.bk
  have oP := I.hok P _ eP
  have hcl := closure_ok hfree
  refine PySem.W.kla_eval hdef ?_
  match hc : codeAmong pos ps.toList with
  | some cv =>
    obtain ⟨c', rfl, eC⟩ := amo pos cv hc
    refine PySem.W.kla_makeFunctionHit (mg := X.mg) hcl I.ok.glob (I.mod.glob.keeps I.bk) hcode (TB.code.keeps I.bk) oP trip hc blt fun ctv h' tk keep big => ?_
    refine h _ c' _ ctv H _ ⟨I.kept fun b o e => Heap.get?_push_of_some _ (keep b o e), ExtN.refl H, hT, Heap.get?_push_size _ rfl, I.fpOk big (I.hok.fresh big), eC⟩
  | none =>
    refine PySem.W.kla_makeFunction (mg := X.mg) hcl I.ok.glob (I.mod.glob.keeps I.bk) hcode (TB.code.keeps I.bk) oP trip hc TB.gP blt fun c' ctv h' tk keep big lt rec tab => ?_
    obtain ⟨_, oc, vs, t, e2, e3, e4, e5⟩ := rec
    injection e2 with e2
    subst e2
    have big2 : s.heap.objs.size ≤ h'.objs.size := by omega
    have fresh := I.hok.fresh big
    have nPc : P ≠ c' := ne_of_none eP fresh
    have J := inv_table (t' := tk) (more := #[rawInt pos.line, rawInt pos.col, .ref c']) (h' := h'.push (lamObj X params body scope ((X.mg "__name__").getD .none) ctv c')) I eP
      (fun b o hb e => Heap.get?_push_of_some _ (keep b o hb e)) (Heap.get?_push_of_some _ tab) big ⟨oc, vs, t, Heap.get?_push_of_some _ e3, e4, e5⟩
    have ext : ExtN H (upd (upd H P (.tbl (ps ++ #[rawInt pos.line, rawInt pos.col, .ref c']))) c' (CodeO c' (X.env.qual ++ "<lambda>"))) := fun b o e nt => by
      have n1 : b ≠ c' := ne_of_none e fresh
      have n2 : b ≠ P := by
        rintro rfl
        rw [eP] at e
        cases e
        exact nt ps rfl
      rw [upd_ne n1, upd_ne n2, e]
    have nF : (upd (upd H P (.tbl (ps ++ #[rawInt pos.line, rawInt pos.col, .ref c']))) c' (CodeO c' (X.env.qual ++ "<lambda>"))) h'.objs.size = none := by
      have n1 : h'.objs.size ≠ c' := by omega
      have n2 : h'.objs.size ≠ P := fun z => by
        have lt := Heap.lt_size (show s.heap.get? P = some _ from oP)
        rw [← z] at lt
        exact Nat.lt_irrefl _ (Nat.lt_of_lt_of_le lt big2)
      rw [upd_ne n1, upd_ne n2]
      exact I.hok.fresh big2
    have grow : (ps ++ #[rawInt pos.line, rawInt pos.col, .ref c']).toList = ps.toList ++ [rawInt pos.line, rawInt pos.col, .ref c'] := by simp
    refine h _ c' _ ctv _ _ ⟨J, ext, fun p hp => ?_, Heap.get?_push_size _ rfl, I.fpOk big2 nF, upd_same⟩
    by_cases hb : p.1 = P
    · rw [hu p hp hb, hb]
      refine ⟨_, (upd_ne nPc).trans upd_same, grow ▸ PySem.TriplesOk_snoc _ _ _ _ trip, fun p' cv hcv => ?_⟩
      rw [grow] at hcv
      cases among_app _ trip hcv with
      | inl z =>
        obtain ⟨c0, q1, q2⟩ := amo p' cv z
        exact ⟨c0, q1, ext _ _ q2 codeO_ne⟩
      | inr z => exact ⟨c', z, upd_same⟩
    · obtain ⟨ps', a1, a2, a3⟩ := hT p hp
      refine ⟨ps', by rw [upd_ne (ne_of_none a1 fresh), upd_ne hb, a1], a2, fun pos cv hcv => ?_⟩
      obtain ⟨c0, q1, q2⟩ := a3 pos cv hcv
      exact ⟨c0, q1, ext _ _ q2 codeO_ne⟩
end
/-- keys and their order -/
structure KeyOrd (K : PySem.W.Frag) (κ : Type) where
  KV : Hp → V → κ → Prop
  lt : κ → κ → Bool
  swo : SrtO.Swo lt
  mono : ∀ {H H' : Hp} {v : V} {a : κ}, ExtN H H' → KV H v a → KV H' v a
  cmp : ∀ (X : Cx) (pins : List (Addr × Obj)) (σ : L2.St) (H : Hp) (s : Shared) (A : Around) (v1 v2 : V) (u1 u2 : Value) (a b : κ) (Q : Value → Shared → Prop) (E : Value → Shared → Prop), X.K = K → Inv X pins σ H s → A.units < cLine → RelV v1 u1 → RelV v2 u2 → KV H v1 a → KV H v2 b →
    Q (.bool (lt a b)) s → wpAny (model X.prog X.w) A (richCompare .Lt u1 u2) Q E s
/-- ints -/
def keyInt (K : PySem.W.Frag) : KeyOrd K Int where
  KV := fun _ v i => v = .int i
  lt := fun a b => decide (a < b)
  swo := swo_int
  mono := fun _ h => h
  cmp := by
    intro X pins σ H s A v1 v2 u1 u2 a b Q E hK I hu r1 r2 k1 k2 q
    subst k1 k2
    obtain ⟨t1, rfl⟩ := r1
    obtain ⟨t2, rfl⟩ := r2
    exact lt_int (prog := X.prog) (w := X.w) (A := A) (E := E) q
/-- tuples of ints -/
def keyTup (K : PySem.W.Frag) : KeyOrd K (List Int) where
  KV := fun H v ns => ∃ t, v = .ref t ∧ H t = some (.tup (ns.map V.int))
  lt := HT.lexLt
  swo := swo_lexLt
  mono := fun e h => by
    obtain ⟨t, e1, e2⟩ := h
    exact ⟨t, e1, e _ _ e2 (fun ps z => by cases z)⟩
  cmp := by
    intro X pins σ H s A v1 v2 u1 u2 a b Q E hK I hu r1 r2 k1 k2 q
    obtain ⟨t1, rfl, h1⟩ := k1
    obtain ⟨t2, rfl, h2⟩ := k2
    cases r1
    cases r2
    obtain ⟨its, r1, p1, _⟩ := I.tuple (.of h1)
    obtain ⟨its2, r2, p2, _⟩ := I.tuple (.of h2)
    exact HT.lt_tupInts p1 p2 (intsAre_of r1) (intsAre_of r2) hu q
section
variable {X : Cx} {pins : List (Addr × Obj)} {σ : L2.St} {H1 : Hp} {T : List (Addr × Str)} {κ : Type}
def KeyTurn (KO : KeyOrd X.K κ) (A : Around) (σ : L2.St) (H1 : Hp) (T : List (Addr × Str)) (q : Addr) (lamO : Obj) (xs : List V) (kf : Nat → κ) : Prop :=
  ∀ (i : Nat) (x : V) (v : Value) (H' : Hp) (s' : Shared) (pins' : List (Addr × Obj)) (E : Value → Shared → Prop), xs[i]? = some x → RelV x v → Inv X pins' σ H' s' → ExtN H1 H' → Tabs T H' → s'.heap.get? q = some lamO →
    wpAny (model X.prog X.w) A (call (.ref q) [v]) (EP X pins' σ (fun k H'' => ExtN H' H'' ∧ Tabs T H'' ∧ KO.KV H'' k (kf i))) E s'
/-- the first least one -/
def IsMin (lt : κ → κ → Bool) (kf : Nat → κ) (n i : Nat) : Prop := ∀ j, j < n → lt (kf j) (kf i) = false ∧ (j < i → lt (kf i) (kf j) = true)
theorem sqL_ext {K : PySem.W.Frag} {H H' : Hp} {a : Addr} {xs : List V} (e : ExtN H H') (h : SqL K H a xs) : SqL K H' a xs := by
  rcases h with (h | ⟨o, h⟩) | h
  · exact .inl (.inl (e _ _ h fun _ z => by cases z))
  · exact .inl (.inr ⟨o, e _ _ h fun _ z => by cases z⟩)
  · exact .inr h
theorem fp_at {H H' : Hp} {b : Addr} (f : FpOk X pins H b) (h : H' b = none) : FpOk X pins H' b := ⟨h, f.2⟩
theorem min_loop (KO : KeyOrd X.K κ) {kf : Nat → κ} {lamO : Obj} {xs : List V} {a q I S : Addr} {R : Result → Shared → Prop} (hh : X.A.handled = none) (hun : X.A.in1.units < cLine) (turn : KeyTurn KO X.A.in1 σ H1 T q lamO xs kf) (hx : SqL X.K H1 a xs) (hl : ∀ v, lamO.data ≠ .cell v) (nqI : q ≠ I) (nqS : q ≠ S) (nIS : I ≠ S)
    (hR : ∀ i x v H' s', xs[i]? = some x → RelV x v → IsMin KO.lt kf xs.length i → Inv X pins σ H' s' → ExtN H1 H' → Tabs T H' → R (.ok (.ret v)) s') :
    ∀ (r j i : Nat) (H : Hp) (s : Shared) (xb kb : V) (vb kv : Value) (c : Nat), xs.length - (j + 1) = r → j + 1 ≤ xs.length → Inv X pins σ H s → ExtN H1 H → Tabs T H → FpOk X pins H q → FpOk X pins H I → FpOk X pins H S → s.heap.get? q = some lamO →
      s.heap.get? S = some (seqObj "list" #[vb, kv] c) → s.heap.IsListIter I a (j + 1) → xs[i]? = some xb → RelV xb vb → RelV kb kv → KO.KV H kb (kf i) → IsMin KO.lt kf (j + 1) i → i ≤ j →
      codeAny (model X.prog X.w) X.A (.builtin "min.loop" ⟨[.ref I, .ref q, .ref S], []⟩) R s := by
  have hname : (toString "min" ++ toString ".loop" : String) = "min.loop" := by decide
  intro r
  induction r with
  | zero =>
    intro j i H s xb kb vb kv c hr hj Iv eN tb fq fI fS hq hS hit hxb rb rk kk best hij
    have hin : j + 1 = xs.length := by omega
    obtain ⟨its, rv, pl, hz⟩ := Iv.list (sqL_ext eN hx)
    have hlen := rv.length
    refine codeAny_builtin PySem.F.entry_min_loop ?_
    rw [Around.under_plainId PySem.F.plain_min_loop _]
    show wpAny _ X.A.in1 (seqItems? (.ref S) >>= _) _ _ _
    refine wpAny_bind (wpAny_seqItems hS rfl ?_)
    show wpAny _ X.A.in1 (tryCatch (pyNext (.ref I)) _ >>= _) _ _ _
    refine wpAny_bind (wpAny_tryCatch (wpAny_pyNext_list_end (A := X.A.in1) hh hit pl.isList (by simp; omega) fun h' eb => ?_))
    obtain ⟨f0, f1, f2, f3, f4, f5⟩ := fI
    have I1 : Inv X pins σ H { s with heap := h' } := Iv.turned (t' := s.toks) (fun b o hb e => eb b o hb e) f0 f1 f3 f4 f5
    have hS' : h'.get? S = some (seqObj "list" #[vb, kv] c) := eb S _ (Ne.symm nIS) hS
    have s1 := Heap.SameBut.update h' S (Obj.mapSeq fun _ => (#[] : Array Value))
    show wpAny _ X.A.in1 (updateSeq S (fun _ => #[]) >>= _) _ _ _
    refine wpAny_bind ?_
    refine wpAny_updateSeq hS' rfl (wpAny_bind (wpAny_letGo (wpAny_pure ?_)))
    obtain ⟨g0, g1, g2, g3, g4, g5⟩ := fS
    have I2 : Inv X pins σ H { s with heap := h'.update S (Obj.mapSeq fun _ => (#[] : Array Value)) } := I1.turned (s := { s with heap := h' }) (t' := s.toks) (fun b o hb e => (s1.2 b hb).trans e) g0 g1 g3 g4 g5
    exact hR i xb vb H _ hxb rb (hin ▸ best) I2 eN tb
  | succ r ih =>
    intro j i H s xb kb vb kv c hr hj Iv eN tb fq fI fS hq hS hit hxb rb rk kk best hij
    have hlt : j + 1 < xs.length := by omega
    obtain ⟨its, rv, pl, hz⟩ := Iv.list (sqL_ext eN hx)
    have hxj : xs[j + 1]? = some xs[j + 1] := List.getElem?_eq_getElem hlt
    obtain ⟨u, hu, ru⟩ := rv.get hxj
    refine codeAny_builtin PySem.F.entry_min_loop ?_
    rw [Around.under_plainId PySem.F.plain_min_loop _]
    show wpAny _ X.A.in1 (seqItems? (.ref S) >>= _) _ _ _
    refine wpAny_bind (wpAny_seqItems hS rfl ?_)
    show wpAny _ X.A.in1 (tryCatch (pyNext (.ref I)) _ >>= _) _ _ _
    refine wpAny_bind (wpAny_tryCatch (wpAny_pyNext_list_item hit pl.isList (x := u) (by simpa using hu) fun h' hit' sb => ?_))
    obtain ⟨f0, f1, f2, f3, f4, f5⟩ := id fI
    have I1 : Inv X pins σ H { s with heap := h' } := Iv.turned (t' := s.toks) (fun b o hb e => (sb.2 b hb).trans e) f0 f1 f3 f4 f5
    have hS' : h'.get? S = some (seqObj "list" #[vb, kv] c) := (sb.2 S (Ne.symm nIS)).trans hS
    have hq' : h'.get? q = some lamO := (sb.2 q nqI).trans hq
    obtain ⟨oI, hoI, hcI, hdI⟩ := id hit'
    have I1' : Inv X (pins ++ pinsAt [q, I, S] h') σ H { s with heap := h' } := I1.pinned (fun b hb => by
        rcases List.mem_cons.mp hb with rfl | hb
        · exact fq
        · rcases List.mem_cons.mp hb with rfl | hb
          · exact fI
          · rw [List.mem_singleton.mp hb]; exact fS) fun b hb => by
        rcases List.mem_cons.mp hb with rfl | hb
        · exact ⟨_, hq', hl⟩
        · rcases List.mem_cons.mp hb with rfl | hb
          · exact ⟨oI, hoI, fun v z => by rw [hdI] at z; cases z⟩
          · rw [List.mem_singleton.mp hb]; exact ⟨_, hS', fun v z => by cases z⟩
    show wpAny _ X.A.in1 (tryCatch (holding [u] (call (.ref q) [u])) _ >>= _) _ _ _
    refine wpAny_bind (wpAny_tryCatch (wpAny_holding (wpAny_mono (turn (j + 1) _ u H { s with heap := h' } _ _ hxj ru I1' eN tb hq') (fun kn s2 he => ?_) fun _ _ e => e)))
    obtain ⟨k2, H2, I2', rk2, e2, tb2, kk2⟩ := he
    have at_ : ∀ b o, b ∈ [q, I, S] → h'.get? b = some o → s2.heap.get? b = some o ∧ H2 b = none := fun b o hb e => by
      have := I2'.pin (b, o) (List.mem_append_right _ (List.mem_append_right _ (mem_pinsAt hb e)))
      exact ⟨this.1, this.2.1⟩
    have I2 := I2'.unpinned
    obtain ⟨hq2, nq2⟩ := at_ q _ (by simp) hq'
    obtain ⟨hI2, nI2⟩ := at_ I _ (by simp) hoI
    obtain ⟨hS2, nS2⟩ := at_ S _ (by simp) hS'
    have eN2 := eN.trans e2
    show wpAny _ X.A.in1 (tryCatch (holding [u, kn] (richCompare .Lt kn kv >>= _)) _ >>= _) _ _ _
    refine wpAny_bind (wpAny_tryCatch (wpAny_holding (wpAny_bind (KO.cmp X pins σ H2 s2 X.A.in1 k2 kb kn kv _ _ _ _ rfl I2 hun rk2 rk kk2 (KO.mono e2 kk) ?_))))
    refine wpAny_bind (wpAny_holding (wpAny_truthy_bool ?_))
    refine wpAny_bind (wpAny_letGo (wpAny_pure ?_))
    cases hb' : KO.lt (kf (j + 1)) (kf i) with
    | true =>
      have s1 := Heap.SameBut.update s2.heap S (Obj.mapSeq fun _ => #[u, kn])
      obtain ⟨c2, hc2⟩ : ∃ c2, (s2.heap.update S (Obj.mapSeq fun _ => #[u, kn])).get? S = some (seqObj "list" #[u, kn] c2) := ⟨_, get?_update_seq hS2 fun _ => #[u, kn]⟩
      simp only [if_true]
      refine wpAny_bind ?_
      refine wpAny_updateSeq hS2 rfl (wpAny_bind (wpAny_letGo ?_))
      rw [hname]
      obtain ⟨g0, g1, g2, g3, g4, g5⟩ := fS
      have I3 : Inv X pins σ H2 { s2 with heap := s2.heap.update S (Obj.mapSeq fun _ => #[u, kn]) } := I2.turned (t' := s2.toks) (fun b o hb e => (s1.2 b hb).trans e) nS2 g1 g3 g4 g5
      refine wpAny_pure ⟨plainId_quiet PySem.F.plain_min_loop _, ih (j + 1) (j + 1) H2 _ _ k2 u kn c2 (by omega) hlt I3 eN2 tb2 (fp_at fq nq2) (fp_at fI nI2) (fp_at ⟨g0, g1, g2, g3, g4, g5⟩ nS2) ((s1.2 q nqS).trans hq2) hc2 ⟨oI, (s1.2 I nIS).trans hI2, hcI, hdI⟩ hxj ru rk2 kk2 (fun j' hj' => ?_) (Nat.le_refl _)⟩
      by_cases e : j' = j + 1
      · subst e
        exact ⟨KO.swo.refl _, fun z => absurd z (Nat.lt_irrefl _)⟩
      · have b1 := (best j' (by omega)).1
        have b2 := KO.swo.ltle hb' b1
        exact ⟨KO.swo.asym _ _ b2, fun _ => b2⟩
    | false =>
      simp only [Bool.false_eq_true, if_false]
      refine wpAny_bind (wpAny_letGo ?_)
      rw [hname]
      refine wpAny_pure ⟨plainId_quiet PySem.F.plain_min_loop _, ih (j + 1) i H2 _ xb kb vb kv c (by omega) hlt I2 eN2 tb2 (fp_at fq nq2) (fp_at fI nI2) (fp_at fS nS2) hq2 hS2 ⟨oI, hI2, hcI, hdI⟩ hxb rb rk (KO.mono e2 kk) (fun j' hj' => ?_) (by omega)⟩
      by_cases e : j' = j + 1
      · subst e
        exact ⟨hb', fun z => absurd z (by omega)⟩
      · exact best j' (by omega)
theorem min_call (KO : KeyOrd X.K κ) {kf : Nat → κ} {lamO : Obj} {xs : List V} {a q : Addr} {s : Shared} {Q : VK} (hh : X.A.handled = none) (hun : X.A.in1.units < cLine) (turn : KeyTurn KO X.A.in1 σ H1 T q lamO xs kf) (hx : SqL X.K H1 a xs) (hl : ∀ v, lamO.data ≠ .cell v)
    (h0 : 0 < xs.length) (Iv : Inv X pins σ H1 s) (tb : Tabs T H1) (fq : FpOk X pins H1 q) (hq : s.heap.get? q = some lamO) (hQ : ∀ i x H', xs[i]? = some x → IsMin KO.lt kf xs.length i → ExtN H1 H' → Tabs T H' → Q x H') :
    wpAny (model X.prog X.w) X.A (call (.builtin "min") [.ref a] [(Str.ofString "key", .ref q)]) (EP X pins σ Q) X.xe s := by
  have hname : (toString "min" ++ toString ".loop" : String) = "min.loop" := by decide
  obtain ⟨its, rv, pl, hz⟩ := Iv.list hx
  have hlen := rv.length
  refine kmk_tree PySem.F.kind_min PySem.F.plain_min PySem.F.entry_min (kmk_min_key _ _) ?_
  show wpAny _ X.A.in1 (Builtin.Builtins.bindParams "min" ["key", "default"] 0 ⟨[], [(Str.ofString "key", .ref q)]⟩ >>= _) _ _ s
  refine wpAny_bind (wpAny_of_eq (show Builtin.Builtins.bindParams "min" ["key", "default"] 0 ⟨[], [(Str.ofString "key", .ref q)]⟩ = pure [some (.ref q), none] from rfl) ?_)
  refine wpAny_bind (wpAny_pure ?_)
  refine wpAny_bind (wpAny_pyIter_list pl.isList ?_)
  refine wpAny_bind (wpAny_newList ?_ (Nat.zero_le _))
  rw [hname]
  refine wpAny_pure ⟨plainId_quiet PySem.F.plain_min_loop _, ?_⟩
  have hS : (s.heap.push { cls := .type "list_iterator", data := .fields #[.ref a, .int 0 0] }).objs.size = s.heap.objs.size + 1 := size_push' ..
  rw [hS]
  have gI : ((s.heap.push { cls := .type "list_iterator", data := .fields #[.ref a, .int 0 0] }).push (seqObj "list" #[] 0)).get? s.heap.objs.size = some { cls := .type "list_iterator", data := .fields #[.ref a, .int 0 0] } :=
    Heap.get?_push_of_some _ (Heap.get?_push_size _ rfl)
  have gS : ((s.heap.push { cls := .type "list_iterator", data := .fields #[.ref a, .int 0 0] }).push (seqObj "list" #[] 0)).get? (s.heap.objs.size + 1) = some (seqObj "list" #[] 0) := by
    rw [← hS]
    exact Heap.get?_push_size _ rfl
  have old : ∀ b o, s.heap.get? b = some o → ((s.heap.push { cls := .type "list_iterator", data := .fields #[.ref a, .int 0 0] }).push (seqObj "list" #[] 0)).get? b = some o := fun b o e => Heap.get?_push_of_some _ (Heap.get?_push_of_some _ e)
  have I0 : Inv X pins σ H1 { s with heap := (s.heap.push { cls := .type "list_iterator", data := .fields #[.ref a, .int 0 0] }).push (seqObj "list" #[] 0) } := Iv.kept (t' := s.toks) old
  have fI : FpOk X pins H1 s.heap.objs.size := Iv.fpOk (Nat.le_refl _) (Iv.hok.fresh (Nat.le_refl _))
  have fS : FpOk X pins H1 (s.heap.objs.size + 1) := Iv.fpOk (Nat.le_succ _) (Iv.hok.fresh (Nat.le_succ _))
  have nIS : s.heap.objs.size ≠ s.heap.objs.size + 1 := Nat.ne_of_lt (Nat.lt_succ_self _)
  have hql : q < s.heap.objs.size := Heap.lt_size hq
  have nqI : q ≠ s.heap.objs.size := Nat.ne_of_lt hql
  have nqS : q ≠ s.heap.objs.size + 1 := Nat.ne_of_lt (Nat.lt_succ_of_lt hql)
  generalize ehp : (s.heap.push { cls := .type "list_iterator", data := .fields #[.ref a, .int 0 0] }).push (seqObj "list" #[] 0) = h0' at gI gS old I0
  generalize eI : s.heap.objs.size = I at gI fI fS nIS nqI nqS gS hql
  generalize eS : I + 1 = S at gS fS nIS nqS
  have hq0 := old q _ hq
  have hx0 : xs[0]? = some xs[0] := List.getElem?_eq_getElem h0
  obtain ⟨its', rv', pl', hz'⟩ := I0.list hx
  obtain ⟨u, hu, ru⟩ := rv'.get hx0
  refine codeAny_builtin PySem.F.entry_min_loop ?_
  rw [Around.under_plainId PySem.F.plain_min_loop _]
  show wpAny _ X.A.in1 (seqItems? (.ref S) >>= _) _ _ _
  refine wpAny_bind (wpAny_seqItems (s := { s with heap := h0' }) gS rfl ?_)
  show wpAny _ X.A.in1 (tryCatch (pyNext (.ref I)) _ >>= _) _ _ _
  refine wpAny_bind (wpAny_tryCatch (wpAny_pyNext_list_item (i := 0) ⟨_, gI, rfl, rfl⟩ pl'.isList (x := u) (by simpa using hu) fun h' hit' sb => ?_))
  obtain ⟨f0, f1, f2, f3, f4, f5⟩ := id fI
  have I1 : Inv X pins σ H1 { s with heap := h' } := I0.turned (s := { s with heap := h0' }) (t' := s.toks) (fun b o hb e => (sb.2 b hb).trans e) f0 f1 f3 f4 f5
  have hS' : h'.get? S = some (seqObj "list" #[] 0) := (sb.2 S (Ne.symm nIS)).trans gS
  have hq' : h'.get? q = some lamO := (sb.2 q nqI).trans hq0
  obtain ⟨oI, hoI, hcI, hdI⟩ := id hit'
  have I1' : Inv X (pins ++ pinsAt [q, I, S] h') σ H1 { s with heap := h' } := I1.pinned (fun b hb => by
      rcases List.mem_cons.mp hb with rfl | hb
      · exact fq
      · rcases List.mem_cons.mp hb with rfl | hb
        · exact fI
        · rw [List.mem_singleton.mp hb]; exact fS) fun b hb => by
      rcases List.mem_cons.mp hb with rfl | hb
      · exact ⟨_, hq', hl⟩
      · rcases List.mem_cons.mp hb with rfl | hb
        · exact ⟨oI, hoI, fun v z => by rw [hdI] at z; cases z⟩
        · rw [List.mem_singleton.mp hb]; exact ⟨_, hS', fun v z => by cases z⟩
  show wpAny _ X.A.in1 (tryCatch (holding [u] (call (.ref q) [u])) _ >>= _) _ _ _
  refine wpAny_bind (wpAny_tryCatch (wpAny_holding (wpAny_mono (turn 0 _ u H1 { s with heap := h' } _ _ hx0 ru I1' (ExtN.refl H1) tb hq') (fun kn s2 he => ?_) fun _ _ e => e)))
  obtain ⟨k2, H2, I2', rk2, e2, tb2, kk2⟩ := he
  have at_ : ∀ b o, b ∈ [q, I, S] → h'.get? b = some o → s2.heap.get? b = some o ∧ H2 b = none := fun b o hb e => by
    have := I2'.pin (b, o) (List.mem_append_right _ (List.mem_append_right _ (mem_pinsAt hb e)))
    exact ⟨this.1, this.2.1⟩
  have I2 := I2'.unpinned
  obtain ⟨hq2, nq2⟩ := at_ q _ (by simp) hq'
  obtain ⟨hI2, nI2⟩ := at_ I _ (by simp) hoI
  obtain ⟨hS2, nS2⟩ := at_ S _ (by simp) hS'
  have s1 := Heap.SameBut.update s2.heap S (Obj.mapSeq fun _ => #[u, kn])
  obtain ⟨c2, hc2⟩ : ∃ c2, (s2.heap.update S (Obj.mapSeq fun _ => #[u, kn])).get? S = some (seqObj "list" #[u, kn] c2) := ⟨_, get?_update_seq hS2 fun _ => #[u, kn]⟩
  show wpAny _ X.A.in1 (updateSeq S (fun _ => #[u, kn]) >>= _) _ _ _
  refine wpAny_bind ?_
  refine wpAny_updateSeq hS2 rfl ?_
  rw [hname]
  obtain ⟨g0, g1, g2, g3, g4, g5⟩ := fS
  have I3 : Inv X pins σ H2 { s2 with heap := s2.heap.update S (Obj.mapSeq fun _ => #[u, kn]) } := I2.turned (t' := s2.toks) (fun b o hb e => (s1.2 b hb).trans e) nS2 g1 g3 g4 g5
  refine wpAny_pure ⟨plainId_quiet PySem.F.plain_min_loop _, min_loop KO hh hun turn hx hl nqI nqS nIS (fun i x v H' s' hxi rx hm Iv' eN tb' => ⟨x, H', Iv', rx, hQ i x H' hxi hm eN tb'⟩) _ 0 0 H2 _ _ k2 u kn c2 rfl h0 I3 e2 tb2 (fp_at fq nq2) (fp_at fI nI2) (fp_at ⟨g0, g1, g2, g3, g4, g5⟩ nS2) ((s1.2 q nqS).trans hq2) hc2 ⟨oI, (s1.2 I nIS).trans hI2, hcI, hdI⟩ hx0 ru rk2 kk2 (fun j' hj' => ?_) (Nat.le_refl _)⟩
  have e : j' = 0 := by omega
  subst e
  exact ⟨KO.swo.refl _, fun z => absurd z (Nat.lt_irrefl _)⟩
/-- what a key's reading tells for the items of the list x -/
def KeyPost (K : PySem.W.Frag) (T : List (Addr × Str)) (KO : KeyOrd K κ) (j : Nat) (tb : TE) (σ : L2.St) (Z : (xs : List V) → (Nat → κ) → Hp → Prop) (vs : List V) (H1 : Hp) : Prop :=
  ∃ x, vs = [x] ∧ Tabs T H1 ∧ ∀ H2, ExtN H1 H2 → Tabs T H2 → ∃ (a : Addr) (xs : List V) (kf : Nat → κ), x = .ref a ∧ SqL K H2 a xs ∧
    (∀ i y H', xs[i]? = some y → ExtN H2 H' → Tabs T H' → tb (σ.set j (some y)) H' fun k H'' => ExtN H' H'' ∧ Tabs T H'' ∧ KO.KV H'' k (kf i)) ∧ Z xs kf H2
/-- min(e, key=lambda p: body), the name p in slot j -/
def tMinK (K : PySem.W.Frag) (T : List (Addr × Str)) (KO : KeyOrd K κ) (j : Nat) (te tb : TE) : TE := fun σ H Q => te σ H fun x H1 => KeyPost K T KO j tb σ (fun xs kf H2 => 0 < xs.length ∧ ∀ i y H', xs[i]? = some y → IsMin KO.lt kf xs.length i → ExtN H2 H' → Tabs T H' → Q y H') [x] H1
theorem pe_minK {e body : Expr} {te tb : TE} {params : Arguments} {scope : Scope} {p : Str} {j k : Nat} {c P : Addr} {fp lpos kpos pos : Pos} (KO : KeyOrd X.K κ) (hc : X.calm = true) (hg : Gl X "min") (hm : X.mg "min" = none) (he : PE X e te)
    (TB : TabB X.base X.mg c P) (hcode : X.env.code = .ref c) (hmT : (P, X.env.qual ++ "<lambda>") ∈ T) (hu : ∀ p ∈ T, p.1 = P → p.2 = X.env.qual ++ "<lambda>") (hr : Room (k + 2) X.A) (L : LamS1 X.env.scope scope p) (hN : X.N.Nodup) (hj : X.N[j]? = some p)
    (hdef : defaultsOf params X.env = ([], []))
    (hbind : ∀ (q : Str) (cl : List (Str × Addr)) (pm cv ctv v : Value), bindArgs (PySem.W.kla_fn "<lambda>" q params body scope cl pm cv ctv) ⟨[v], []⟩ = pure [(p, v)])
    (hbody : ∀ (s : Shared) (H : Hp) (f c' : Addr), Room k (X.A.in1.deeper (lamEnv X scope s.heap.objs.size f c')) → PE (lamCx1 X X.A.in1 s H scope f c') body tb)
    (hs0 : starEach [e] X.env = (false, eval e X.env) :: starEach [] X.env := by rfl) (hs : backTo pos (starEach [e] X.env) = (false, eval e X.env) :: backTo pos (starEach [] X.env) := by rfl) (hpl : (backTo pos (starEach [e] X.env)).any (·.1) = false := by rfl)
    (hall : (backToKw pos (keywordEach [⟨some "key", .Lambda params body scope lpos, kpos⟩] X.env)).all (·.1.isSome) = true := by rfl) (hnone : (backToKw pos (keywordEach [⟨some "key", .Lambda params body scope lpos, kpos⟩] X.env)).any (·.1.isNone) = false := by rfl)
    (hks : (backToKw pos (keywordEach [⟨some "key", .Lambda params body scope lpos, kpos⟩] X.env)).filterMap (·.1) = [Str.ofString "key"] := by rfl) :
    PE X (.Call (.Name "min" fp) [e] [⟨some "key", .Lambda params body scope lpos, kpos⟩] pos) (tMinK X.K T KO j te tb) := by
  refine ⟨fun pins s σ H Q I h => ?_⟩
  refine wpAny_Call_Name_kw (ld_blt I hg hm (u := .builtin "min") (by decide +kernel) ?_ (by decide) (by decide))
  refine PyProof.Rows.callWith_kw (thn ((pa_cons he pa_nil hs0).run pos pins s σ H (fun vs H1 => KeyPost X.K T KO j tb σ (fun xs kf H2 => 0 < xs.length ∧ ∀ i y H', xs[i]? = some y → IsMin KO.lt kf xs.length i → ExtN H2 H' → Tabs T H' → Q y H') vs H1) I h) fun us s1 ⟨vs, H1, I1, r1, q1⟩ => ?_) hs hpl hall hnone
  rw [hks]
  obtain ⟨x, rfl, hT, q1⟩ := q1
  show wpAny _ _ (evalAll [do let v ← eval (.Lambda params body scope lpos) X.env; standAt _; pure v]) _ _ _
  refine wpAny_evalAll_cons (wpAny_bind (lam_new I1 TB hcode hmT hu hT hdef (L.has I1.ok) fun f c' pm ctv H2 s2 m => wpAny_bind (wpAny_standAt (wpAny_pure ?_))))
  refine wpAny_evalAll_nil ?_
  obtain ⟨a, xs, kf, rfl, hx, ht, h0, hq⟩ := q1 H2 m.ext m.tabs
  obtain rfl := Vals.ref1 r1
  have r1' := hr.in1
  refine min_call KO (m.inv.ok.hd hc) (by have := r1'.un; omega) (fun i y v H' s' pins' E hxi ry I' e' t' hq' => ?_) hx (fun v z => by cases z) h0 m.inv m.tabs m.fp m.obj hq
  exact lam_call1 I' L hN hj ry I'.ok.frames r1' hq' (e' _ _ m.code codeO_ne) (hbind _ _ _ _ _ _) (fun s H hr => hbody s H f c' hr) (ht i y H' hxi e' t')
end
end Fx

set_option Elab.async false
set_option linter.all false
set_option maxRecDepth 100000
set_option maxHeartbeats 4000000
/-! sorted(l, key=lambda x: ..). -/
namespace Fx
open PySem PySem.Spec PyProof.Rows L2 LamX
/-! ### the stable sort as a function -/
section
variable {α β : Type}
def ins (lt : α → α → Bool) (x : α) : List α → List α
  | [] => [x]
  | y :: r => if lt y x = true then y :: ins lt x r else x :: y :: r
def isort (lt : α → α → Bool) : List α → List α
  | [] => []
  | x :: r => ins lt x (isort lt r)
theorem ins_perm (lt : α → α → Bool) (x : α) : ∀ l, (ins lt x l).Perm (x :: l)
  | [] => List.Perm.refl _
  | y :: r => by
    unfold ins
    split
    · exact (List.Perm.cons y (ins_perm lt x r)).trans (List.Perm.swap x y r)
    · exact List.Perm.refl _
theorem isort_perm (lt : α → α → Bool) : ∀ l, (isort lt l).Perm l
  | [] => List.Perm.refl _
  | x :: r => (ins_perm lt x _).trans (List.Perm.cons x (isort_perm lt r))
theorem ins_srtd {lt : α → α → Bool} (O : SrtO.Swo lt) (x : α) : ∀ {l}, SrtO.Srtd lt l → SrtO.Srtd lt (ins lt x l)
  | [], _ => List.pairwise_singleton _ _
  | y :: r, h => by
    unfold ins
    by_cases c : lt y x = true
    · rw [if_pos c]
      refine List.pairwise_cons.mpr ⟨fun z hz => ?_, ins_srtd O x (List.pairwise_cons.mp h).2⟩
      rcases List.mem_cons.mp ((ins_perm lt x r).mem_iff.mp hz) with e | hz
      · rw [e]; exact O.asym _ _ c
      · exact (List.pairwise_cons.mp h).1 z hz
    · rw [if_neg c]
      have c' : lt y x = false := by simpa using c
      refine List.pairwise_cons.mpr ⟨fun z hz => ?_, h⟩
      rcases List.mem_cons.mp hz with e | hz
      · rw [e]; exact c'
      · exact O.tr x y z c' ((List.pairwise_cons.mp h).1 z hz)
theorem isort_srtd {lt : α → α → Bool} (O : SrtO.Swo lt) : ∀ l, SrtO.Srtd lt (isort lt l)
  | [] => List.Pairwise.nil
  | x :: r => ins_srtd O x (isort_srtd O r)
theorem ins_cls {lt : α → α → Bool} (O : SrtO.Swo lt) (x z : α) : ∀ l, (ins lt x l).filter (SrtO.eqv lt z) = (x :: l).filter (SrtO.eqv lt z)
  | [] => rfl
  | y :: r => by
    unfold ins
    by_cases c : lt y x = true
    · rw [if_pos c, List.filter_cons, ins_cls O x z r, List.filter_cons, List.filter_cons, List.filter_cons]
      by_cases hx : SrtO.eqv lt z x = true
      · have hy : ¬ SrtO.eqv lt z y = true := by
          intro hy
          unfold SrtO.eqv at hx hy
          simp only [Bool.and_eq_true, Bool.not_eq_true'] at hx hy
          have q := O.tr x z y hx.1 hy.2
          rw [c] at q
          cases q
        rw [if_neg hy, if_pos hx, if_neg hy, if_pos hx]
      · rw [if_neg hx, if_neg hx]
    · rw [if_neg c]
theorem isort_stb {lt : α → α → Bool} (O : SrtO.Swo lt) : ∀ l, SrtO.Stb lt (isort lt l) l
  | [] => SrtO.Stb.refl _
  | x :: r => ⟨isort_perm lt _, fun z => by
    show (ins lt x (isort lt r)).filter _ = _
    rw [ins_cls O, List.filter_cons, List.filter_cons, (isort_stb O r).cls z]⟩
theorem srtd_uniq {lt : α → α → Bool} (O : SrtO.Swo lt) : ∀ (l m : List α), SrtO.Srtd lt l → SrtO.Srtd lt m → l.length = m.length → (∀ x, l.filter (SrtO.eqv lt x) = m.filter (SrtO.eqv lt x)) → l = m
  | [], [], _, _, _, _ => rfl
  | [], _ :: _, _, _, h, _ => by simp at h
  | _ :: _, [], _, _, h, _ => by simp at h
  | a :: l, b :: m, h1, h2, hl, hc => by
    have rf : ∀ x, SrtO.eqv lt x x = true := fun x => by unfold SrtO.eqv; rw [O.refl]; rfl
    have ha := hc a
    have hb := hc b
    rw [List.filter_cons_of_pos (rf a)] at ha
    rw [List.filter_cons_of_pos (rf b)] at hb
    have am : a ∈ b :: m := (List.mem_filter.mp (by rw [← ha]; exact List.mem_cons_self)).1
    have bl : b ∈ a :: l := (List.mem_filter.mp (by rw [hb]; exact List.mem_cons_self)).1
    have e1 : lt a b = false := by
      rcases List.mem_cons.mp am with e | am
      · rw [e]; exact O.refl _
      · exact (List.pairwise_cons.mp h2).1 a am
    have e2 : lt b a = false := by
      rcases List.mem_cons.mp bl with e | bl
      · rw [e]; exact O.refl _
      · exact (List.pairwise_cons.mp h1).1 b bl
    have eab : SrtO.eqv lt a b = true := by unfold SrtO.eqv; rw [e1, e2]; rfl
    have e3 := ha
    rw [List.filter_cons_of_pos eab] at e3
    have e4 : a = b := (List.cons.inj e3).1
    subst e4
    rw [srtd_uniq O l m (List.pairwise_cons.mp h1).2 (List.pairwise_cons.mp h2).2 (by simpa using hl) fun x => ?_]
    have q := hc x
    rw [List.filter_cons, List.filter_cons] at q
    by_cases c : SrtO.eqv lt x a = true
    · rw [if_pos c, if_pos c] at q
      exact (List.cons.inj q).2
    · rw [if_neg c, if_neg c] at q
      exact q
theorem eq_isort {lt : α → α → Bool} (O : SrtO.Swo lt) {l m : List α} (h1 : SrtO.Srtd lt l) (h2 : SrtO.Stb lt l m) : l = isort lt m :=
  srtd_uniq O _ _ h1 (isort_srtd O m) (by rw [h2.len, (isort_stb O m).len]) fun x => by rw [h2.cls x, (isort_stb O m).cls x]
theorem ins_map {lt : β → β → Bool} {lt' : α → α → Bool} (f : α → β) (x : α) : ∀ l : List α, (∀ y ∈ l, lt (f y) (f x) = lt' y x) → ins lt (f x) (l.map f) = (ins lt' x l).map f
  | [], _ => rfl
  | y :: r, h => by
    rw [List.map_cons]
    unfold ins
    rw [h y List.mem_cons_self]
    by_cases c : lt' y x = true
    · rw [if_pos c, if_pos c, List.map_cons, ins_map f x r fun z hz => h z (List.mem_cons_of_mem _ hz)]
    · rw [if_neg c, if_neg c]; rfl
theorem isort_map {lt : β → β → Bool} {lt' : α → α → Bool} (f : α → β) : ∀ l : List α, (∀ x ∈ l, ∀ y ∈ l, lt (f y) (f x) = lt' y x) → isort lt (l.map f) = (isort lt' l).map f
  | [], _ => rfl
  | x :: r, h => by
    show ins lt (f x) (isort lt (r.map f)) = (ins lt' x (isort lt' r)).map f
    rw [isort_map f r fun a ha b hb => h a (List.mem_cons_of_mem _ ha) b (List.mem_cons_of_mem _ hb)]
    exact ins_map f x _ fun y hy => h x List.mem_cons_self y (List.mem_cons_of_mem _ ((isort_perm lt' r).mem_iff.mp hy))
end
/-! ### an own record that is tracked from now on -/
section
variable {X : Cx} {pins : List (Addr × Obj)} {σ : L2.St} {H : Hp} {s : Shared}
theorem Inv.adopt {D : Addr} {o : HO} (I : Inv X pins σ H s) (f : FpOk X pins H D) (h0 : X.s_0.heap.objs.size ≤ D) (new : ObjOk X.prog X.w (upd H D o) s.heap D o) : Inv X pins σ (upd H D o) s := by
  obtain ⟨f0, f1, f2, f3, f4, f5⟩ := f
  have ne0 : ∀ b u, X.s_0.heap.get? b = some u → b ≠ D := fun b u e z => by
    rw [z] at e
    exact Nat.lt_irrefl _ (Nat.lt_of_lt_of_le (Heap.lt_size e) h0)
  have neH : ∀ b u, H b = some u → b ≠ D := fun b u e => ne_of_none e f0
  refine ⟨I.ok, I.os, I.bare, ⟨I.base.keep, I.base.slot, fun b u e n hx => ?_, I.base.there, fun b xs e => ?_, fun b ob u e => ?_, fun b ps e => ?_⟩, I.loc, I.cell, ?_, fun x c e => ?_, fun p hp => ?_, fun b u e => ?_, I.len⟩
  · rw [upd_ne (ne0 b u e)]
    exact I.base.free b u e n hx
  · have q := I.base.tups b xs e
    rw [upd_ne (neH b _ q)]
    exact q
  · have q := I.base.frzs b ob u e
    rw [upd_ne (neH b _ q)]
    exact q
  · obtain ⟨m, q⟩ := I.base.tbls b ps e
    exact ⟨m, by rw [upd_ne (neH b _ q)]; exact q⟩
  · rw [upd_ne (Ne.symm f1)]
    exact I.free
  · rw [upd_ne (f4 x c e)]
    exact I.freeC x c e
  · obtain ⟨q1, q2, q3⟩ := I.pin p hp
    exact ⟨q1, by rw [upd_ne (f5 p hp)]; exact q2, q3⟩
  · by_cases hb : b = D
    · rw [hb, upd_same] at e
      cases e
      rw [hb]
      exact new
    · rw [upd_ne hb] at e
      refine (I.hok b u e).stay (fun c v _ q => q) (fun c q => ?_) fun c xs q => ?_
      · rw [upd_ne (neH c _ q)]; exact q
      · rw [upd_ne (neH c _ q)]; exact q
end
/-- keys that the sort can compare: the kind that it finds, and its order on the values -/
def KeySort {K : PySem.W.Frag} {κ : Type} (KO : KeyOrd K κ) : Prop := ∀ (X : Cx) (pins : List (Addr × Obj)) (σ : L2.St) (H : Hp) (s : Shared) (A : Around) (ks : List V) (us : List Value) (as : List κ), X.K = K → Inv X pins σ H s → A.units + 64 < cLine → Vals ks us → Paired (KO.KV H) ks as → 2 ≤ us.length →
  ∃ (kd : SortKind) (ltv : Value → Value → Bool), SrtO.Swo ltv ∧ (∀ (Q : SortKind → Shared → Prop) (E : Value → Shared → Prop), Q kd s → wpAny (model X.prog X.w) A (keyKind' us.toArray) Q E s) ∧ SrtO.Cmp X.prog X.w A s kd (fun p => p.1 ∈ us) (SrtO.lt2 ltv) ∧
    ∀ (i j : Nat) u v a b, us[i]? = some u → us[j]? = some v → as[i]? = some a → as[j]? = some b → ltv u v = KO.lt a b
theorem ints_of_keys {K : PySem.W.Frag} {H : Hp} : ∀ {ks : List V} {us : List Value} {as : List Int}, Vals ks us → Paired ((keyInt K).KV H) ks as → IntsAre us as
  | _, _, _, .nil, .nil => .nil
  | _, _, _, .cons r t, .cons q p => by
    have q : _ = V.int _ := q
    subst q
    obtain ⟨tk, rfl⟩ := r
    exact .cons _ tk (ints_of_keys t p)
theorem keySort_int {K : PySem.W.Frag} : KeySort (keyInt K) := by
  intro X pins σ H s A ks us as hK I hu rv pk h2
  have hI := ints_of_keys rv pk
  refine ⟨oneType', SrtO.ltIv, SrtO.swo_int, fun Q E hq => ?_, SrtO.int_cmp hI, fun i j u v a b hu hv ha hb => ?_⟩
  · rw [ksk_kind (keys := us.toArray) (by simpa using hI) (by simpa using h2)]
    exact wpAny_pure hq
  · obtain ⟨t, e1⟩ := hI.get i a ha
    obtain ⟨t', e2⟩ := hI.get j b hb
    rw [hu] at e1
    rw [hv] at e2
    cases e1
    cases e2
    rfl
section
variable {X : Cx} {pins : List (Addr × Obj)} {σ : L2.St} {H1 : Hp} {T : List (Addr × Str)} {κ : Type}
theorem paired_snoc {α β : Type} {F : α → β → Prop} {x : α} {y : β} (h : F x y) : ∀ {l : List α} {m : List β}, Paired F l m → Paired F (l ++ [x]) (m ++ [y])
  | _, _, .nil => .cons h .nil
  | _, _, .cons q r => .cons q (paired_snoc h r)
/-- the items in their order -/
def sortedBy (lt : κ → κ → Bool) (kf : Nat → κ) (xs : List V) : List V := (isort (fun i j => lt (kf i) (kf j)) (List.range xs.length)).map fun i => xs.getD i .non
theorem zip_range (us vs : List Value) (h : us.length = vs.length) : us.zip vs = (List.range vs.length).map fun i => (us.getD i .none, vs.getD i .none) := by
  apply List.ext_getElem?
  intro i
  rw [List.getElem?_map]
  by_cases hi : i < vs.length
  · have hu : i < us.length := by omega
    rw [List.getElem?_range hi, List.getElem?_zip_eq_some (z := (us[i], vs[i])) |>.mpr ⟨List.getElem?_eq_getElem hu, List.getElem?_eq_getElem hi⟩]
    simp [List.getD_eq_getElem?_getD, hi, hu]
  · rw [List.getElem?_eq_none (by simp; omega), List.getElem?_eq_none (by simp; omega)]
    rfl
theorem getD_map_range (vs : List Value) : vs = (List.range vs.length).map fun i => vs.getD i .none := by
  apply List.ext_getElem?
  intro i
  rw [List.getElem?_map]
  by_cases hi : i < vs.length
  · rw [List.getElem?_range hi, List.getElem?_eq_getElem hi]
    simp [List.getD_eq_getElem?_getD, hi]
  · rw [List.getElem?_eq_none (by omega), List.getElem?_eq_none (by simp; omega)]
    rfl
theorem vals_pick {xs : List V} {vs : List Value} (rv : Vals xs vs) : ∀ {l : List Nat}, (∀ i ∈ l, i < xs.length) → Vals (l.map fun i => xs.getD i .non) (l.map fun i => vs.getD i .none)
  | [], _ => .nil
  | i :: l, h => by
    have hi := h i List.mem_cons_self
    obtain ⟨u, hu, r⟩ := rv.get (List.getElem?_eq_getElem hi)
    refine .cons ?_ (vals_pick rv fun j hj => h j (List.mem_cons_of_mem _ hj))
    have e1 : xs.getD i .non = xs[i] := by simp [List.getD_eq_getElem?_getD, hi]
    have e2 : vs.getD i .none = u := by simp [List.getD_eq_getElem?_getD, hu]
    show L2.RelV (xs.getD i .non) (vs.getD i .none)
    rw [e1, e2]
    exact r
theorem sort_tail {KO : KeyOrd X.K κ} {kf : Nat → κ} {xs : List V} {vs : List Value} {D kS : Addr} {A : Around} {e e1 : Nat} {kA : Array Value} {H' : Hp} {s' : Shared} {st' : SortSt} {P : PySem.Fin → Shared → Prop} {E : Value → Shared → Prop} (hzv : vs.length ≤ sizeLine) (rv : Vals xs vs) (I' : Inv X pins σ H' s') (szD : X.s_0.heap.objs.size ≤ D) (fD : FpOk X pins H' D) (fS : FpOk X pins H' kS) (nDS : D ≠ kS)
    (hD' : s'.heap.get? D = some (seqObj "list" #[] e1)) (hS' : s'.heap.get? kS = some (seqObj "list" kA e)) (hkl : kA.size = vs.length) (hf : failedOf st' = none)
    (ho : (arrOf st').toList.map (·.2) = (isort (fun i j => KO.lt (kf i) (kf j)) (List.range xs.length)).map fun i => vs.getD i .none)
    (h : ∀ s'', Inv X pins σ (upd H' D (.lst (sortedBy KO.lt kf xs))) s'' → P (.done (.ret .none)) s'') : wpAny (model X.prog X.w) A (ksk_tail D false e1 (.ref kS) st') P E s' := by
  have hlen := rv.length
  have hp := isort_perm (fun i j => KO.lt (kf i) (kf j)) (List.range xs.length)
  have hn : (arrOf st').size = vs.length := by
    have q := congrArg List.length ho
    rw [List.length_map, List.length_map, hp.length_eq, List.length_range, Array.length_toList] at q
    rw [q, hlen]
  have s1 := Heap.SameBut.update s'.heap kS (Obj.mapSeq fun _ => (#[] : Array Value))
  have na1 : (s'.heap.update kS (Obj.mapSeq fun _ => (#[] : Array Value))).get? D = some (seqObj "list" #[] e1) := (s1.2 D nDS).trans hD'
  have s2 := Heap.SameBut.update (s'.heap.update kS (Obj.mapSeq fun _ => (#[] : Array Value))) D (Obj.mapSeq fun _ => (arrOf st').map (·.2))
  obtain ⟨c2, hc2⟩ : ∃ c2, ((s'.heap.update kS (Obj.mapSeq fun _ => (#[] : Array Value))).update D (Obj.mapSeq fun _ => (arrOf st').map (·.2))).get? D = some (seqObj "list" ((arrOf st').map (·.2)) c2) := ⟨_, get?_update_seq na1 fun _ => (arrOf st').map (·.2)⟩
  unfold ksk_tail
  try dsimp only
  refine wpAny_bind (listUpdate_at hS' rfl ?_ (by rw [hkl]; exact hzv) (Nat.zero_le _))
  refine wpAny_bind (wpAny_letGo ?_)
  refine wpAny_bind (seqEpoch_at na1 rfl ?_)
  refine wpAny_bind (listUpdate_at na1 rfl ?_ (Nat.zero_le _) (by simp only [Bool.false_eq_true, if_false, Array.size_map, hn]; exact Nat.le_succ_of_le hzv))
  rw [hf]
  simp only [bne_self_eq_false, Bool.false_eq_true, if_false]
  refine wpAny_pure (h _ ?_)
  obtain ⟨g0, g1, g2, g3, g4, g5⟩ := id fS
  obtain ⟨d0, d1, d2, d3, d4, d5⟩ := id fD
  have I1 : Inv X pins σ H' { s' with heap := s'.heap.update kS (Obj.mapSeq fun _ => (#[] : Array Value)) } := I'.turned (t' := s'.toks) (fun b o hb e => (s1.2 b hb).trans e) g0 g1 g3 g4 g5
  have I2 : Inv X pins σ H' { s' with heap := (s'.heap.update kS (Obj.mapSeq fun _ => (#[] : Array Value))).update D (Obj.mapSeq fun _ => (arrOf st').map (·.2)) } := I1.turned (t' := s'.toks) (fun b o hb e => (s2.2 b hb).trans e) d0 d1 d3 d4 d5
  have hm : ∀ i ∈ isort (fun i j => KO.lt (kf i) (kf j)) (List.range xs.length), i < xs.length := fun i hi => List.mem_range.mp (hp.mem_iff.mp hi)
  have rr := vals_pick rv hm
  have zl : (sortedBy KO.lt kf xs).length ≤ sizeLine := by
    unfold sortedBy
    rw [List.length_map, hp.length_eq, List.length_range, hlen]
    exact hzv
  refine Inv.adopt I2 fD szD ⟨zl, _, c2, rr, ?_⟩
  have ea : ((isort (fun i j => KO.lt (kf i) (kf j)) (List.range xs.length)).map fun i => vs.getD i .none).toArray = (arrOf st').map (·.2) := by
    rw [← ho]
    apply Array.toList_inj.mp
    simp
  rw [ea]
  exact hc2
theorem sort_end {KO : KeyOrd X.K κ} (KS : KeySort KO) {kf : Nat → κ} {xs ks : List V} {vs : List Value} {D kS : Addr} {A : Around} {e e1 : Nat} {kA : Array Value} {H' : Hp} {s' : Shared} {P : PySem.Fin → Shared → Prop} {E : Value → Shared → Prop} (hu : A.units + 64 < cLine) (hzv : vs.length ≤ sizeLine) (rv : Vals xs vs) (I' : Inv X pins σ H' s') (szD : X.s_0.heap.objs.size ≤ D) (fD : FpOk X pins H' D) (fS : FpOk X pins H' kS) (nDS : D ≠ kS)
    (hD' : s'.heap.get? D = some (seqObj "list" #[] e1)) (hS' : s'.heap.get? kS = some (seqObj "list" kA e)) (hkl : kA.size = vs.length) (rk : Vals ks kA.toList) (pk : Paired (KO.KV H') ks ((List.range vs.length).map kf))
    (h : ∀ s'', Inv X pins σ (upd H' D (.lst (sortedBy KO.lt kf xs))) s'' → P (.done (.ret .none)) s'') : wpAny (model X.prog X.w) A (ksk_end D false vs.toArray e1 (.ref kS) kA) P E s' := by
  have hlen := rv.length
  have hkl2 : kA.toList.length = vs.length := by rw [Array.length_toList]; exact hkl
  have ez : (kA.zip vs.toArray).toList = (List.range vs.length).map fun i => (kA.toList.getD i .none, vs.getD i .none) := by
    rw [ksk_zip]
    exact zip_range _ _ hkl2
  unfold ksk_end
  try dsimp only
  simp only [Bool.false_eq_true, if_false]
  by_cases h2 : vs.toArray.size < 2
  · rw [if_pos h2, if_pos h2]
    refine wpAny_bind (wpAny_pure ?_)
    rw [StateT.run_pure]
    refine wpAny_bind (wpAny_pure ?_)
    try dsimp only
    refine sort_tail (kf := kf) (KO := KO) hzv rv I' szD fD fS nDS hD' hS' hkl rfl ?_ h
    have el : (arrOf (SortSt.mk' general' (kA.zip vs.toArray) #[] 7 none)).toList = (kA.zip vs.toArray).toList := rfl
    rw [el, ez, List.map_map, hlen]
    rw [List.size_toArray] at h2
    have e3 : isort (fun i j => KO.lt (kf i) (kf j)) (List.range vs.length) = List.range vs.length := by
      have : vs.length = 0 ∨ vs.length = 1 := by omega
      rcases this with e | e <;> rw [e] <;> rfl
    rw [e3]
    rfl
  · rw [if_neg h2, if_neg h2]
    rw [List.size_toArray] at h2
    obtain ⟨kd, ltv, swo, hkind, hcmp, heq⟩ := KS X pins σ H' s' A ks kA.toList _ rfl I' hu rk pk (by omega)
    rw [Array.toArray_toList] at hkind
    refine wpAny_bind (hkind _ _ ?_)
    have hall : SrtO.AllL (fun p : Keyed => p.1 ∈ kA.toList) (kA.zip vs.toArray).toList := fun p hm => by
      rw [ksk_zip] at hm
      exact (List.of_mem_zip (show (p.1, p.2) ∈ _ from hm)).1
    refine wpAny_bind (wpAny_mono (SrtO.wpS_sortO (st0 := SortSt.mk' kd (kA.zip vs.toArray) #[] 7 none)
      (Q := fun _ st' => SrtO.Srtd (SrtO.lt2 ltv) (arrOf st').toList ∧ SrtO.Stb (SrtO.lt2 ltv) (arrOf st').toList (kA.zip vs.toArray).toList ∧ failedOf st' = none) (SrtO.swo2 swo) hcmp rfl hall rfl rfl fun st' a1 a2 a3 => ⟨a1, a2, a3⟩) ?_ fun _ _ e => e)
    rintro ⟨⟨⟩, st'⟩ s2 ⟨rfl, hp1, hp2, hf⟩
    try dsimp only
    refine sort_tail (kf := kf) (KO := KO) hzv rv I' szD fD fS nDS hD' hS' hkl hf ?_ h
    rw [eq_isort (SrtO.swo2 swo) hp1 hp2, ez, hlen, isort_map (lt' := fun i j => KO.lt (kf i) (kf j)), List.map_map]
    · rfl
    · intro i hi j hj
      have hi' := List.mem_range.mp hi
      have hj' := List.mem_range.mp hj
      have gi : kA.toList[i]? = some (kA.toList.getD i .none) := by rw [List.getD_eq_getElem?_getD, List.getElem?_eq_getElem (by omega)]; rfl
      have gj : kA.toList[j]? = some (kA.toList.getD j .none) := by rw [List.getD_eq_getElem?_getD, List.getElem?_eq_getElem (by omega)]; rfl
      exact heq j i _ _ _ _ gj gi (by rw [List.getElem?_map, List.getElem?_range hj']; rfl) (by rw [List.getElem?_map, List.getElem?_range hi']; rfl)
theorem sorted_call (KO : KeyOrd X.K κ) (KS : KeySort KO) {kf : Nat → κ} {lamO : Obj} {xs : List V} {a q : Addr} {s : Shared} {Q : VK} (hh : X.A.handled = none) (hun : X.A.in1.in1.units + 64 < cLine) (turn : KeyTurn KO X.A.in1.in1 σ H1 T q lamO xs kf) (hx : SqL X.K H1 a xs) (hl : ∀ v, lamO.data ≠ .cell v)
    (Iv : Inv X pins σ H1 s) (tb : Tabs T H1) (fq : FpOk X pins H1 q) (hq : s.heap.get? q = some lamO) (hQ : ∀ H' p, ExtN H1 H' → Tabs T H' → H' p = none → Q (.ref p) (upd H' p (.lst (sortedBy KO.lt kf xs)))) :
    wpAny (model X.prog X.w) X.A (call (.builtin "sorted") [.ref a] [(Str.ofString "key", .ref q)]) (EP X pins σ Q) X.xe s := by
  obtain ⟨vs, rv, pl, hz⟩ := Iv.list hx
  have hlen := rv.length
  have hzv : vs.length ≤ sizeLine := by rw [← hlen]; exact hz
  refine call_function_entry_kw kind_sorted plain_sorted entry_sorted (ksk_s1 _ _) ?_
  unfold Builtin.«sorted»
  refine wpAny_bind (m := checkCount "sorted" 1 1 _) (wpAny_pure ?_)
  refine wpAny_bind (collect_list pl.isList ?_ hzv)
  refine wpAny_bind (wpAny_newList ?_ hzv)
  have hsz : ((s.heap.push (seqObj "list" #[] 0)).update s.heap.objs.size (Obj.mapSeq (· ++ vs.toArray))).objs.size = s.heap.objs.size + 1 := by
    rw [Heap.size_update, size_push']
  have hoL : (((s.heap.push (seqObj "list" #[] 0)).update s.heap.objs.size (Obj.mapSeq (· ++ vs.toArray))).push (seqObj "list" vs.toArray 0)).get? (s.heap.objs.size + 1) = some (seqObj "list" vs.toArray 0) := by
    rw [← hsz]; exact Heap.get?_push_size _ rfl
  have keep : ∀ b o, s.heap.get? b = some o → (((s.heap.push (seqObj "list" #[] 0)).update s.heap.objs.size (Obj.mapSeq (· ++ vs.toArray))).push (seqObj "list" vs.toArray 0)).get? b = some o := fun b o e => by
    have hlt : b < s.heap.objs.size := Heap.lt_size e
    refine Heap.get?_push_of_some _ ?_
    rw [Heap.get?_update_ne _ _ _ _ (Nat.ne_of_lt hlt)]
    exact Heap.get?_push_of_some _ e
  show wpAny _ _ _ _ _ { s with heap := ((s.heap.push (seqObj "list" #[] 0)).update s.heap.objs.size (Obj.mapSeq (· ++ vs.toArray))).push (seqObj "list" vs.toArray 0) }
  rw [hsz]
  have hsA : (((s.heap.push (seqObj "list" #[] 0)).update s.heap.objs.size (Obj.mapSeq (· ++ vs.toArray))).push (seqObj "list" vs.toArray 0)).objs.size = s.heap.objs.size + 2 := by
    rw [size_push', hsz]
  have hD : s.heap.objs.size ≤ s.heap.objs.size + 1 := Nat.le_succ _
  have hqs : q < s.heap.objs.size := Heap.lt_size hq
  generalize hA : ((s.heap.push (seqObj "list" #[] 0)).update s.heap.objs.size (Obj.mapSeq (· ++ vs.toArray))).push (seqObj "list" vs.toArray 0) = hp0 at hoL keep hsA
  generalize eD : s.heap.objs.size + 1 = D at hoL hD
  refine wpAny_bind (wpAny_holding (wpAny_call_entry_kw slot_list_sort (s := { s with heap := hp0 }) ⟨_, hoL, rfl⟩ entry_list_sort ?_ (ksk_l1 _ _)))
  show wpAny (model X.prog X.w) X.A.in1.in1 (Builtin.«list.sort» ⟨[.ref D], [(Str.ofString "key", .ref q)]⟩) _ _ _
  rw [ksk_t1]
  unfold ksk_tree
  have s1 := Heap.SameBut.update hp0 D (Obj.mapSeq fun _ => (#[] : Array Value))
  obtain ⟨e1, ho1⟩ : ∃ e1, (hp0.update D (Obj.mapSeq fun _ => (#[] : Array Value))).get? D = some (seqObj "list" #[] e1) := ⟨_, get?_update_seq hoL fun _ => #[]⟩
  refine wpAny_bind (listItems_at hoL rfl ?_)
  refine wpAny_bind (listUpdate_at hoL rfl ?_ (by rw [List.size_toArray]; exact hzv) (Nat.zero_le _))
  refine wpAny_bind (seqEpoch_at ho1 rfl ?_)
  refine wpAny_bind (wpAny_newTuple ?_ (by show vs.length ≤ _; exact hzv))
  refine wpAny_bind (wpAny_newList ?_ (Nat.zero_le _))
  refine wpAny_holding ?_
  have hk2 : ((hp0.update D (Obj.mapSeq fun _ => (#[] : Array Value))).push (seqObj "tuple" vs.toArray 0)).objs.size = s.heap.objs.size + 3 := by
    rw [size_push', Heap.size_update, hsA]
  have keepB : ∀ b o, s.heap.get? b = some o → (((hp0.update D (Obj.mapSeq fun _ => (#[] : Array Value))).push (seqObj "tuple" vs.toArray 0)).push (seqObj "list" #[] 0)).get? b = some o := fun b o e => by
    have hlt : b < s.heap.objs.size := Heap.lt_size e
    refine Heap.get?_push_of_some _ (Heap.get?_push_of_some _ ?_)
    have ne : b ≠ D := fun z => Nat.lt_irrefl _ (Nat.lt_of_lt_of_le (z ▸ hlt) hD)
    exact (s1.2 b ne).trans (keep b o e)
  have gD : (((hp0.update D (Obj.mapSeq fun _ => (#[] : Array Value))).push (seqObj "tuple" vs.toArray 0)).push (seqObj "list" #[] 0)).get? D = some (seqObj "list" #[] e1) := Heap.get?_push_of_some _ (Heap.get?_push_of_some _ ho1)
  have gS : (((hp0.update D (Obj.mapSeq fun _ => (#[] : Array Value))).push (seqObj "tuple" vs.toArray 0)).push (seqObj "list" #[] 0)).get? (s.heap.objs.size + 3) = some (seqObj "list" #[] 0) := by
    rw [← hk2]
    exact Heap.get?_push_size _ rfl
  rw [hk2]
  have nDS : D ≠ s.heap.objs.size + 3 := by rw [← eD]; exact Nat.ne_of_lt (Nat.lt_of_lt_of_le (Nat.lt_succ_self _) (Nat.le_succ _))
  have hS : s.heap.objs.size ≤ s.heap.objs.size + 3 := Nat.le_add_right _ _
  generalize eS : s.heap.objs.size + 3 = kS at gS nDS hS
  generalize hB : ((hp0.update D (Obj.mapSeq fun _ => (#[] : Array Value))).push (seqObj "tuple" vs.toArray 0)).push (seqObj "list" #[] 0) = hp1 at keepB gD gS
  have I0 : Inv X pins σ H1 { s with heap := hp1 } := Iv.kept (t' := s.toks) keepB
  have fD : FpOk X pins H1 D := Iv.fpOk hD (Iv.hok.fresh hD)
  have fS : FpOk X pins H1 kS := Iv.fpOk hS (Iv.hok.fresh hS)
  have nqD : q ≠ D := fun z => Nat.lt_irrefl _ (Nat.lt_of_lt_of_le (z ▸ hqs) hD)
  have nqS : q ≠ kS := fun z => Nat.lt_irrefl _ (Nat.lt_of_lt_of_le (z ▸ hqs) hS)
  have szD : X.s_0.heap.objs.size ≤ D := Nat.le_trans Iv.sz hD
  have hq0 := keepB q _ hq
  unfold ksk_rest
  refine wpAny_bind (wpAny_rule ?_)
  rw [List.forIn_toArray]
  refine wpAny_bind (ksk_fold (fun i s' => ∃ (H' : Hp) (kA : Array Value) (e : Nat) (ks : List V), Inv X pins σ H' s' ∧ ExtN H1 H' ∧ Tabs T H' ∧ s'.heap.get? q = some lamO ∧ H' q = none ∧ s'.heap.get? D = some (seqObj "list" #[] e1) ∧ H' D = none ∧ s'.heap.get? kS = some (seqObj "list" kA e) ∧ H' kS = none ∧
      Vals ks kA.toList ∧ Paired (KO.KV H') ks ((List.range i).map kf)) vs 0 _ ?start ?step ?done)
  case start => exact ⟨H1, #[], 0, [], I0, ExtN.refl _, tb, hq0, fq.1, gD, fD.1, gS, fS.1, .nil, .nil⟩
  case step =>
    rintro j u s' hu ⟨H', kA, e, ks, I', eN, tb', hq', nq', hD', nD', hS', nS', rk, pk⟩
    simp only [Nat.zero_add] at pk ⊢
    have hj : j < vs.length := (List.getElem?_eq_some_iff.mp hu).1
    have hxj : xs[j]? = some xs[j] := List.getElem?_eq_getElem (by omega)
    obtain ⟨u', hu', ru⟩ := rv.get hxj
    rw [hu] at hu'
    cases hu'
    have hkl : ks.length = kA.size := by rw [← Array.length_toList]; exact rk.length
    have hpl : ks.length = j := by have q := Paired.length pk; rw [List.length_map, List.length_range] at q; exact q
    have hjz : j < sizeLine := Nat.lt_of_lt_of_le hj hzv
    rw [hpl] at hkl
    have I1' : Inv X (pins ++ pinsAt [q, D, kS] s'.heap) σ H' s' := I'.pinned (fun b hb => by
        rcases List.mem_cons.mp hb with rfl | hb
        · exact fp_at fq nq'
        · rcases List.mem_cons.mp hb with rfl | hb
          · exact fp_at fD nD'
          · rw [List.mem_singleton.mp hb]; exact fp_at fS nS') fun b hb => by
        rcases List.mem_cons.mp hb with rfl | hb
        · exact ⟨_, hq', hl⟩
        · rcases List.mem_cons.mp hb with rfl | hb
          · exact ⟨_, hD', fun v z => by cases z⟩
          · rw [List.mem_singleton.mp hb]; exact ⟨_, hS', fun v z => by cases z⟩
    refine wpAny_bind (wpAny_attempt (wpAny_mono (turn j _ u H' s' _ (fun _ _ => False) hxj ru I1' eN tb' hq') (fun kn s2 he => ?_) fun _ _ hF => hF.elim))
    obtain ⟨k2, H2, I2', rk2, e2, tb2, kk2⟩ := he
    have at_ : ∀ b o, b ∈ [q, D, kS] → s'.heap.get? b = some o → s2.heap.get? b = some o ∧ H2 b = none := fun b o hb e => by
      have := I2'.pin (b, o) (List.mem_append_right _ (List.mem_append_right _ (mem_pinsAt hb e)))
      exact ⟨this.1, this.2.1⟩
    have I2 := I2'.unpinned
    obtain ⟨hq2, nq2⟩ := at_ q _ (by simp) hq'
    obtain ⟨hD2, nD2⟩ := at_ D _ (by simp) hD'
    obtain ⟨hS2, nS2⟩ := at_ kS _ (by simp) hS'
    try dsimp only
    have s3 := Heap.SameBut.update s2.heap kS (Obj.mapSeq (·.push kn))
    obtain ⟨c2, hc2⟩ : ∃ c2, (s2.heap.update kS (Obj.mapSeq (·.push kn))).get? kS = some (seqObj "list" (kA.push kn) c2) := ⟨_, get?_update_seq hS2 (·.push kn)⟩
    refine wpAny_bind (listUpdate_at hS2 rfl ?_ (by rw [← hkl]; exact Nat.le_of_lt hjz) (Nat.le_trans (Nat.le_of_eq (Array.size_push ..)) (by rw [← hkl]; exact Nat.succ_le_succ (Nat.le_of_lt hjz))))
    obtain ⟨g0, g1, g2, g3, g4, g5⟩ := id fS
    have I3 : Inv X pins σ H2 { s2 with heap := s2.heap.update kS (Obj.mapSeq (·.push kn)) } := I2.turned (t' := s2.toks) (fun b o hb e => (s3.2 b hb).trans e) nS2 g1 g3 g4 g5
    refine wpAny_pure ⟨rfl, H2, kA.push kn, c2, ks ++ [k2], I3, eN.trans e2, tb2, (s3.2 q nqS).trans hq2, nq2, (s3.2 D nDS).trans hD2, nD2, hc2, nS2, ?_, ?_⟩
    · rw [Array.toList_push]
      exact rk.append (.cons rk2 .nil)
    · rw [List.range_succ, List.map_append]
      exact paired_snoc kk2 (Paired.mapP pk fun a b h => KO.mono e2 h)
  case done =>
    rintro s' ⟨H', kA, e, ks, I', eN, tb', hq', nq', hD', nD', hS', nS', rk, pk⟩
    simp only [Nat.zero_add] at pk
    have hkl : kA.size = vs.length := by
      have q := Paired.length pk
      have q2 : ks.length = kA.toList.length := rk.length
      rw [List.length_map, List.length_range] at q
      rw [← Array.length_toList, ← q2, q]
    have hkl2 : kA.toList.length = vs.length := by rw [Array.length_toList]; exact hkl
    try dsimp only
    refine wpAny_bind (listItems_at hS' rfl ?_)
    refine sort_end KS hun hzv rv I' szD (fp_at fD nD') (fp_at fS nS') nDS hD' hS' hkl rk pk fun s'' I'' => ⟨_, rfl, ?_⟩
    exact wpAny_pure ⟨_, rfl, .ref D, _, I'', rfl, hQ H' D eN tb' nD'⟩
end
end Fx

set_option Elab.async false
set_option linter.all false
set_option maxRecDepth 100000
set_option maxHeartbeats 4000000
/-! sorted, min by a lambda: the rules and what they make of data. -/
namespace Fx
open PySem PySem.Spec PyProof.Rows L2 LamX
section
variable {X : Cx} {T : List (Addr × Str)} {κ : Type}
/-- sorted(e, key=lambda p: body), the name p in slot j -/
def tSortK (K : PySem.W.Frag) (T : List (Addr × Str)) (KO : KeyOrd K κ) (j : Nat) (te tb : TE) : TE := fun σ H Q => te σ H fun x H1 => KeyPost K T KO j tb σ (fun xs kf H2 => ∀ H' p, ExtN H2 H' → Tabs T H' → H' p = none → Q (.ref p) (upd H' p (.lst (sortedBy KO.lt kf xs)))) [x] H1
theorem pe_sortK {e body : Expr} {te tb : TE} {params : Arguments} {scope : Scope} {p : Str} {j k : Nat} {c P : Addr} {fp lpos kpos pos : Pos} (KO : KeyOrd X.K κ) (KS : KeySort KO) (hc : X.calm = true) (hg : Gl X "sorted") (hm : X.mg "sorted" = none) (he : PE X e te)
    (TB : TabB X.base X.mg c P) (hcode : X.env.code = .ref c) (hmT : (P, X.env.qual ++ "<lambda>") ∈ T) (hu : ∀ p ∈ T, p.1 = P → p.2 = X.env.qual ++ "<lambda>") (hr : Room (k + 3) X.A) (L : LamS1 X.env.scope scope p) (hN : X.N.Nodup) (hj : X.N[j]? = some p)
    (hdef : defaultsOf params X.env = ([], []))
    (hbind : ∀ (q : Str) (cl : List (Str × Addr)) (pm cv ctv v : Value), bindArgs (PySem.W.kla_fn "<lambda>" q params body scope cl pm cv ctv) ⟨[v], []⟩ = pure [(p, v)])
    (hbody : ∀ (s : Shared) (H : Hp) (f c' : Addr), Room k (X.A.in1.in1.deeper (lamEnv X scope s.heap.objs.size f c')) → PE (lamCx1 X X.A.in1.in1 s H scope f c') body tb)
    (hs0 : starEach [e] X.env = (false, eval e X.env) :: starEach [] X.env := by rfl) (hs : backTo pos (starEach [e] X.env) = (false, eval e X.env) :: backTo pos (starEach [] X.env) := by rfl) (hpl : (backTo pos (starEach [e] X.env)).any (·.1) = false := by rfl)
    (hall : (backToKw pos (keywordEach [⟨some "key", .Lambda params body scope lpos, kpos⟩] X.env)).all (·.1.isSome) = true := by rfl) (hnone : (backToKw pos (keywordEach [⟨some "key", .Lambda params body scope lpos, kpos⟩] X.env)).any (·.1.isNone) = false := by rfl)
    (hks : (backToKw pos (keywordEach [⟨some "key", .Lambda params body scope lpos, kpos⟩] X.env)).filterMap (·.1) = [Str.ofString "key"] := by rfl) :
    PE X (.Call (.Name "sorted" fp) [e] [⟨some "key", .Lambda params body scope lpos, kpos⟩] pos) (tSortK X.K T KO j te tb) := by
  refine ⟨fun pins s σ H Q I h => ?_⟩
  refine wpAny_Call_Name_kw (ld_blt I hg hm (u := .builtin "sorted") (by decide +kernel) ?_ (by decide) (by decide))
  refine PyProof.Rows.callWith_kw (thn ((pa_cons he pa_nil hs0).run pos pins s σ H (fun vs H1 => KeyPost X.K T KO j tb σ (fun xs kf H2 => ∀ H' p, ExtN H2 H' → Tabs T H' → H' p = none → Q (.ref p) (upd H' p (.lst (sortedBy KO.lt kf xs)))) vs H1) I h) fun us s1 ⟨vs, H1, I1, r1, q1⟩ => ?_) hs hpl hall hnone
  rw [hks]
  obtain ⟨x, rfl, hT, q1⟩ := q1
  show wpAny _ _ (evalAll [do let v ← eval (.Lambda params body scope lpos) X.env; standAt _; pure v]) _ _ _
  refine wpAny_evalAll_cons (wpAny_bind (lam_new I1 TB hcode hmT hu hT hdef (L.has I1.ok) fun f c' pm ctv H2 s2 m => wpAny_bind (wpAny_standAt (wpAny_pure ?_))))
  refine wpAny_evalAll_nil ?_
  obtain ⟨a, xs, kf, rfl, hx, ht, hq⟩ := q1 H2 m.ext m.tabs
  obtain rfl := Vals.ref1 r1
  have r1' := hr.in1.in1
  refine sorted_call KO KS (m.inv.ok.hd hc) (by have := r1'.un; omega) (fun i y v H' s' pins' E hxi ry I' e' t' hq' => ?_) hx (fun v z => by cases z) m.inv m.tabs m.fp m.obj hq
  exact lam_call1 I' L hN hj ry I'.ok.frames r1' hq' (e' _ _ m.code codeO_ne) (hbind _ _ _ _ _ _) (fun s H hr => hbody s H f c' hr) (ht i y H' hxi e' t')
end
section
variable {T : List (Addr × Str)} {W : Wld T} {G H G1 H1 G2 H2 H0 : Hp} {G0 : Hp × Hp} {c c' k : Nat} {K : PySem.W.Frag} {κ : Type}
/-- how keys stand in data -/
structure KeyD (KO : KeyOrd K κ) (emb : κ → D) : Prop where
  kv : ∀ {T : List (Addr × Str)} {G H : Hp} {v : V} {a : κ}, GOk (W0 T) G H → Rp G v (emb a) → KO.KV H v a
theorem keyD_int : KeyD (keyInt K) .int := ⟨fun g r => by cases r; rfl⟩
theorem keyD_tup : KeyD (keyTup K) dI := ⟨fun g r => by
  cases r with
  | tup h r =>
    rw [RpL.ints r] at h
    exact ⟨_, rfl, (g _ _ h).1⟩⟩
def eraseM : Env' → Env'
  | [] => []
  | .mu _ :: r => .emp :: eraseM r
  | x :: r => x :: eraseM r
theorem eraseM_len : ∀ e : Env', (eraseM e).length = e.length
  | [] => rfl
  | .mu _ :: r => congrArg (· + 1) (eraseM_len r)
  | .emp :: r => congrArg (· + 1) (eraseM_len r)
  | .dat _ :: r => congrArg (· + 1) (eraseM_len r)
theorem eraseM_dat : ∀ {e : Env'} {i : Nat} {d : D}, (eraseM e)[i]? = some (.dat d) → e[i]? = some (.dat d)
  | [], _, _, h => h
  | .mu _ :: r, 0, _, h => by simp [eraseM] at h
  | .emp :: r, 0, _, h => by simp [eraseM] at h
  | .dat _ :: r, 0, _, h => h
  | .mu _ :: r, i + 1, _, h => eraseM_dat (e := r) (i := i) h
  | .emp :: r, i + 1, _, h => eraseM_dat (e := r) (i := i) h
  | .dat _ :: r, i + 1, _, h => eraseM_dat (e := r) (i := i) h
theorem eraseM_mu : ∀ {e : Env'} {i : Nat} {ds : List D}, (eraseM e)[i]? ≠ some (.mu ds)
  | [], _, _, h => by cases h
  | .mu _ :: r, 0, _, h => by simp [eraseM] at h
  | .emp :: r, 0, _, h => by simp [eraseM] at h
  | .dat _ :: r, 0, _, h => by simp [eraseM] at h
  | .mu _ :: r, i + 1, _, h => eraseM_mu (e := r) (i := i) h
  | .emp :: r, i + 1, _, h => eraseM_mu (e := r) (i := i) h
  | .dat _ :: r, i + 1, _, h => eraseM_mu (e := r) (i := i) h
theorem stp_extN (g : GOk W G H) (e : LamX.ExtN H H1) : Stp W G H G H1 := ⟨fun _ _ h => h, fun a o h _ n => e a o h n, fun _ h => .inl h, fun a h o e1 n => h o (e a o e1 n) n⟩
theorem gok_extN (g : GOk W G H) (e : LamX.ExtN H H1) : GOk W G H1 := fun a o h => let ⟨h1, h2, h3⟩ := g a o h; ⟨e a o h1 h2, h2, h3⟩
theorem J_extN (j : W.J c H) (e : LamX.ExtN H H1) (t : LamX.Tabs T H1) : W.J c H1 := W.pure j (fun a o h n => e a o h n) t
theorem extN_stp (s : Stp (W0 T) G H G1 H1) : LamX.ExtN H H1 := fun a o h n => s.hh a o h (fun z => z) n
theorem At.lam {σ : L2.St} {env : Env'} (A : At W G0 H0 c G H σ env) (e : LamX.ExtN H H1) (t : LamX.Tabs T H1) : At (W0 T) (G, G) H1 0 G H1 σ (eraseM env) :=
  ⟨Stp.refl, fun _ _ h => h, (gok_extN A.gok e).drop, t, ⟨by rw [eraseM_len]; exact A.env.len, fun i d h => A.env.dat i d (eraseM_dat h), fun i ds h => absurd h eraseM_mu, fun i j ds es l _ h => absurd h eraseM_mu⟩⟩
theorem key_turn {KO : KeyOrd K κ} {emb : κ → D} (KD : KeyD KO emb) {tb : TE} {env : Env'} {σ : L2.St} {j : Nat} {d : D} {a : κ} {y : V} (A : At W G0 H0 c G H σ env) (e : LamX.ExtN H H1) (t : LamX.Tabs T H1) (r : Rp G y d) (hb : ED (W0 T) tb ((eraseM env).set j (.dat d)) (emb a)) :
    tb (σ.set j (some y)) H1 fun k H'' => LamX.ExtN H1 H'' ∧ LamX.Tabs T H'' ∧ KO.KV H'' k a :=
  hb 0 _ _ _ _ _ ((A.lam e t).setD j r) _ fun v G2 H2 s g j2 r2 => ⟨extN_stp s, j2, KD.kv g r2⟩
/-- min(l, key=..): the first one with a least key -/
theorem ed_minK {KO : KeyOrd K κ} {emb : κ → D} (KD : KeyD KO emb) {te tb : TE} {env : Env'} {j i0 : Nat} {ds : List D} {d0 : D} {kf : Nat → κ} (h : ED W te env (.lst ds)) (hb : ∀ (i : Nat) (d : D), ds[i]? = some d → ED (W0 T) tb ((eraseM env).set j (.dat d)) (emb (kf i))) (hi : ds[i0]? = some d0) (hm : IsMin KO.lt kf ds.length i0) :
    ED W (tMinK K T KO j te tb) env d0 := fun c G0 H0 σ G H A Q q =>
  h c G0 H0 σ G H A _ fun v G1 H1 s1 g1 j1 r1 => by
    have A1 := A.step s1 g1 j1
    cases r1 with
    | lst ha rl =>
    rename_i a xs
    have hlen := rl.len
    refine ⟨_, rfl, W.tabs j1, fun H2 e2 t2 => ⟨a, xs, kf, rfl, sqL_of (gok_extN g1 e2) ha, fun i y H' hy e' t' => ?_, ?_, fun i y H' hy hm' e' t' => ?_⟩⟩
    · obtain ⟨d, hd, rd⟩ := rl.getV hy
      exact key_turn KD A1 (e2.trans e') t' rd (hb i d hd)
    · rw [hlen]
      exact Nat.lt_of_le_of_lt (Nat.zero_le _) (List.getElem?_eq_some_iff.mp hi).1
    · rw [hlen] at hm'
      have hil : i < ds.length := by rw [← hlen]; exact (List.getElem?_eq_some_iff.mp hy).1
      have hi0l := (List.getElem?_eq_some_iff.mp hi).1
      have e0 : i = i0 := by
        rcases Nat.lt_trichotomy i i0 with z | z | z
        · have z1 := (hm i hil).2 z
          rw [(hm' i0 hi0l).1] at z1
          cases z1
        · exact z
        · have z1 := (hm' i0 hi0l).2 z
          rw [(hm i hil).1] at z1
          cases z1
      subst e0
      obtain ⟨d, hd, rd⟩ := rl.getV hy
      rw [hi] at hd
      cases hd
      have e3 := e2.trans e'
      exact q y G1 H' (s1.trans (stp_extN g1 e3)) (gok_extN g1 e3) (J_extN j1 e3 t') rd
/-- the items by their keys -/
def sortD (lt : κ → κ → Bool) (kf : Nat → κ) (ds : List D) : List D := (isort (fun i j => lt (kf i) (kf j)) (List.range ds.length)).map fun i => ds.getD i .non
theorem rp_pick {xs : List V} {ds : List D} (r : RpL G xs ds) : ∀ {l : List Nat}, (∀ i ∈ l, i < ds.length) → RpL G (l.map fun i => xs.getD i .non) (l.map fun i => ds.getD i .non)
  | [], _ => .nil
  | i :: l, h => by
    have hi := h i List.mem_cons_self
    obtain ⟨v, hv, rv⟩ := r.get (List.getElem?_eq_getElem hi)
    refine .cons ?_ (rp_pick r fun j hj => h j (List.mem_cons_of_mem _ hj))
    have e1 : ds.getD i .non = ds[i] := by simp [List.getD_eq_getElem?_getD, hi]
    have e2 : xs.getD i .non = v := by simp [List.getD_eq_getElem?_getD, hv]
    show Rp G (xs.getD i .non) (ds.getD i .non)
    rw [e1, e2]
    exact rv
theorem ed_sortK {KO : KeyOrd K κ} {emb : κ → D} (KD : KeyD KO emb) {te tb : TE} {env : Env'} {j : Nat} {ds : List D} {kf : Nat → κ} (h : ED W te env (.lst ds)) (hb : ∀ (i : Nat) (d : D), ds[i]? = some d → ED (W0 T) tb ((eraseM env).set j (.dat d)) (emb (kf i))) :
    ED W (tSortK K T KO j te tb) env (.lst (sortD KO.lt kf ds)) := fun c G0 H0 σ G H A Q q =>
  h c G0 H0 σ G H A _ fun v G1 H1 s1 g1 j1 r1 => by
    have A1 := A.step s1 g1 j1
    cases r1 with
    | lst ha rl =>
    rename_i a xs
    have hlen := rl.len
    refine ⟨_, rfl, W.tabs j1, fun H2 e2 t2 => ⟨a, xs, kf, rfl, sqL_of (gok_extN g1 e2) ha, fun i y H' hy e' t' => ?_, fun H' p e' t' hp => ?_⟩⟩
    · obtain ⟨d, hd, rd⟩ := rl.getV hy
      exact key_turn KD A1 (e2.trans e') t' rd (hb i d hd)
    · have e3 := e2.trans e'
      have g3 := gok_extN g1 e3
      have j3 := J_extN j1 e3 t'
      have s3 := s1.trans (stp_extN g1 e3)
      have rr : RpL G1 (sortedBy KO.lt kf xs) (sortD KO.lt kf ds) := by
        unfold sortedBy sortD
        rw [hlen]
        exact rp_pick rl fun i hi => List.mem_range.mp ((isort_perm _ _).mem_iff.mp hi)
      exact q _ _ _ (s3.trans (stp_new g3 hp)) (gok_new g3 j3 hp (noTb_lst _)) (J_new j3 hp) (.lst upd_same (rr.mono (same_new (g3.none hp) _)))
/-- in plain words -/
theorem sortD_map {α : Type} {lt : κ → κ → Bool} {kf : Nat → κ} (key : α → κ) (emb : α → D) (xs : List α) (hk : ∀ (i : Nat) (x : α), xs[i]? = some x → kf i = key x) : sortD lt kf (xs.map emb) = (isort (fun x y => lt (key x) (key y)) xs).map emb := by
  cases xs with
  | nil => rfl
  | cons x0 r =>
    have e0 : ∀ l : List α, l = (List.range l.length).map fun i => l.getD i x0 := fun l => by
      apply List.ext_getElem?
      intro i
      rw [List.getElem?_map]
      by_cases hi : i < l.length
      · rw [List.getElem?_range hi, List.getElem?_eq_getElem hi]
        simp [List.getD_eq_getElem?_getD, hi]
      · rw [List.getElem?_eq_none (by omega), List.getElem?_eq_none (by simp; omega)]
        rfl
    have e1 : isort (fun x y => lt (key x) (key y)) (x0 :: r) = (isort (fun i j => lt (kf i) (kf j)) (List.range (x0 :: r).length)).map fun i => (x0 :: r).getD i x0 := by
      conv => lhs; rw [e0 (x0 :: r)]
      refine isort_map (lt' := fun i j => lt (kf i) (kf j)) (fun i => (x0 :: r).getD i x0) _ fun i hi j hj => ?_
      have hi' := List.mem_range.mp hi
      have hj' := List.mem_range.mp hj
      have gi : (x0 :: r)[i]? = some ((x0 :: r).getD i x0) := by rw [List.getD_eq_getElem?_getD, List.getElem?_eq_getElem hi']; rfl
      have gj : (x0 :: r)[j]? = some ((x0 :: r).getD j x0) := by rw [List.getD_eq_getElem?_getD, List.getElem?_eq_getElem hj']; rfl
      rw [hk i _ gi, hk j _ gj]
    rw [e1]
    unfold sortD
    rw [List.length_map, List.map_map]
    refine List.map_congr_left fun i hi => ?_
    have hi' := List.mem_range.mp ((isort_perm _ _).mem_iff.mp hi)
    show ((x0 :: r).map emb).getD i .non = emb ((x0 :: r).getD i x0)
    rw [List.getD_eq_getElem?_getD, List.getD_eq_getElem?_getD, List.getElem?_map, List.getElem?_eq_getElem hi']
    rfl
end
end Fx

set_option Elab.async false
set_option linter.all false
set_option maxRecDepth 100000
set_option maxHeartbeats 4000000
/-! Defs of the module: how they stand, what they promise. -/
namespace Fx
open PySem PySem.Spec PyProof.Rows L2 LamX C8
section
variable {P : Program} {w : World} {K : PySem.W.Frag} {mg : Str → Option Value} {base : Heap} {T : List (Addr × Str)} {W : Wld T}
/-- the def st stands under the name x; cdv: its code object -/
structure Df (K : PySem.W.Frag) (mg : Str → Option Value) (x : Str) (st : Stmt) (ps : List Str) (cdv : Value) : Prop where
  ex : ∃ (f : Addr) (oc : Value) (od : Option Addr) (kV doc pm : Value) (an : Option Addr) (ct : Value) (osl : Array (Option Value)),
    K.lookup f = some ⟨oc, od, .func (PySem.W.fnOf x x (fnArgs st) (fnBody st) (fnScope st) .none kV doc pm an cdv ct), osl⟩ ∧ PySem.W.codeIn K cdv x = true ∧ mg x = some (.ref f) ∧ PySem.W.keepIn K (.ref f) = true ∧
      Binds K (PySem.W.fnOf x x (fnArgs st) (fnBody st) (fnScope st) .none kV doc pm an cdv ct) ps []
theorem df_mk {h : Heap} {x : Str} {st : Stmt} {ps : List Str} {f : Addr} {oc : Value} {od : Option Addr} {kV doc pm : Value} {an : Option Addr} {cdv ct : Value} {osl : Array (Option Value)} (X : K.In h) (G : h.Ns mainGlobals mg)
    (a : PySem.W.nsIn K mainGlobals x = some (some (.ref f))) (l : K.lookup f = some ⟨oc, od, .func (PySem.W.fnOf x x (fnArgs st) (fnBody st) (fnScope st) .none kV doc pm an cdv ct), osl⟩) (c : PySem.W.codeIn K cdv x = true) (k : PySem.W.keepIn K (.ref f) = true)
    (hb : ∀ (us : List Value), us.length = ps.length → bindArgs (PySem.W.fnOf x x (fnArgs st) (fnBody st) (fnScope st) .none kV doc pm an cdv ct) ⟨us, []⟩ = pure (ps.zip us)) : Df K mg x st ps cdv :=
  ⟨f, oc, od, kV, doc, pm, an, ct, osl, l, c, PySem.W.mg_of X G a, k, .all hb⟩
theorem cal_of {x : Str} {st : Stmt} {N ps : List Str} {k : Nat} {sp : Sp} {cdv : Value} (F : Df K mg x st ps cdv) (S : scC N ps (fnScope st) = true) (len : ∀ vs H Q E, sp vs H Q E → vs.length = ps.length)
    (hbody : ∀ (f : Addr) (A : Around) (outer : List Env) (s : Shared) (H : Hp) (vs : List V) (Q : VK) (E : XK), Room k (A.deeper (envOfC x (fnScope st) s.heap.objs.size f cdv)) → sp vs H Q E →
      ∃ t, PSs (cxOf C8.CX0 P w K mg base N x (fnScope st) f cdv A outer s H E).nox (fnBody st) t ∧ t { nx := fun _ H' => Q .non H', rt := Q } (L2.start N vs) H) : Cal P w K mg base (k + 1) x sp [] := by
  obtain ⟨f, oc, od, kV, doc, pm, an, ct, osl, lk, hcd, hm, kp, hb⟩ := F.ex
  refine ⟨f, _, ps, [], fn_of lk hcd (fnScope_by S) len fun A outer s H vs Q E hr hsp => ?_, hm, kp, hb, .nil⟩
  obtain ⟨t, h, q⟩ := hbody f A outer s H vs Q E hr hsp
  exact ⟨t, h.nox, q⟩
/-- a def that makes data of data -/
theorem calD {x : Str} {st : Stmt} {N ps : List Str} {k : Nat} {cdv : Value} {f : List D → D → Prop} (F : Df K mg x st ps cdv) (S : scC N ps (fnScope st) = true) (len : ∀ ds d, f ds d → ds.length = ps.length)
    (hbody : ∀ (a : Addr) (A : Around) (outer : List Env) (s : Shared) (H : Hp) (E : XK), Room k (A.deeper (envOfC x (fnScope st) s.heap.objs.size a cdv)) →
      ∃ t, PSs (cxOf C8.CX0 P w K mg base N x (fnScope st) a cdv A outer s H E).nox (fnBody st) t ∧ ∀ ds d, f ds d → Tr (W0 T) t (env0 ds (N.length - ds.length)) 0 ⟨fun _ _ => d = .non, fun r _ => r = d, fun _ _ => False, fun _ _ => False⟩) : Cal P w K mg base (k + 1) x (SpD T f) [] := by
  have hn : ps.length ≤ N.length := by
    have := (fnScope_by S).pre
    rw [← this, List.length_take]
    omega
  refine cal_of F S (fun vs H Q E h => ?_) fun a A outer s H vs Q E hr h => ?_
  · obtain ⟨G, ds, d, _, _, r, hf, _⟩ := h
    rw [r.len, len ds d hf]
  · obtain ⟨t, ht, q⟩ := hbody a A outer s H E hr
    refine ⟨t, ht, body_D h ?_ q⟩
    obtain ⟨G, ds, d, _, _, r, hf, _⟩ := h
    rw [r.len, len ds d hf]
    exact hn
/-- a def that draws -/
theorem calS {x : Str} {st : Stmt} {N ps : List Str} {k m : Nat} {cdv : Value} {f : List D → (D → Prop) → Prop} (F : Df K mg x st ps cdv) (S : scC N ps (fnScope st) = true) (len : ∀ ds d, f ds d → ds.length = ps.length)
    (hbody : ∀ (a : Addr) (A : Around) (outer : List Env) (s : Shared) (H : Hp) (E : XK), Room k (A.deeper (envOfC x (fnScope st) s.heap.objs.size a cdv)) →
      ∃ t, PSs (cxOf C8.CX0 P w K mg base N x (fnScope st) a cdv A outer s H E).nox (fnBody st) t ∧ ∀ ds P c, f ds P → c + m ≤ CAP → Tr W t (env0 ds (N.length - ds.length)) c ⟨fun _ c2 => P .non ∧ c2 ≤ c + m, fun r c2 => P r ∧ c2 ≤ c + m, fun _ _ => False, fun _ _ => False⟩) : Cal P w K mg base (k + 1) x (SpS W m f) [] := by
  have hn : ps.length ≤ N.length := by
    have := (fnScope_by S).pre
    rw [← this, List.length_take]
    omega
  refine cal_of F S (fun vs H Q E h => ?_) fun a A outer s H vs Q E hr h => ?_
  · obtain ⟨G, c, ds, d, _, _, _, r, hf, _⟩ := h
    rw [r.len, len ds d hf]
  · obtain ⟨t, ht, q⟩ := hbody a A outer s H E hr
    refine ⟨t, ht, body_S h ?_ q⟩
    obtain ⟨G, c, ds, d, _, _, _, r, hf, _⟩ := h
    rw [r.len, len ds d hf]
    exact hn
end
theorem room65 {k : Nat} {A : Around} (r : Room k A) : A.units + 65 < cLine := by have := r.un; omega
section
variable {X : Cx}
theorem pe_cI {x : Str} {i : Int} {pos : Pos} (hg : Gl X x) (hm : ∃ t, X.mg x = some (.int i t)) (hd : (x == ("__debug__" : Str)) = false := by decide) : PE X (.Name x pos) (tC (.int i)) :=
  let ⟨t, h⟩ := hm; pe_glob hg h ⟨t, rfl⟩ hd
theorem pe_cS {x s : Str} {pos : Pos} (hg : Gl X x) (hm : ∃ t, X.mg x = some (.str s t)) (hd : (x == ("__debug__" : Str)) = false := by decide) : PE X (.Name x pos) (tC (.str s)) :=
  let ⟨t, h⟩ := hm; pe_glob hg h ⟨t, rfl⟩ hd
/-- a body's promise of nothing -/
theorem cal_none {P : Program} {w : World} {K : PySem.W.Frag} {mg : Str → Option Value} {base : Heap} {T : List (Addr × Str)} {x : Str} {st : Stmt} {ps : List Str} {k : Nat} {cdv : Value} {f : List D → D → Prop} (F : Df K mg x st ps cdv) (no : ∀ ds d, ¬ f ds d) : Cal P w K mg base k x (SpD T f) [] := by
  obtain ⟨f, oc, od, kV, doc, pm, an, ct, osl, lk, hcd, hm, kp, hb⟩ := F.ex
  exact ⟨f, _, ps, [], ⟨fun vs H Q E h => (by obtain ⟨G, ds, d, _, _, r, hf, _⟩ := h; exact absurd hf (no ds d)), fun A outer s H args us vs Q E _ _ _ _ h => (by obtain ⟨G, ds, d, _, _, r, hf, _⟩ := h; exact absurd hf (no ds d))⟩, hm, kp, hb, .nil⟩
end
end Fx

set_option Elab.async false
set_option linter.all false
set_option maxRecDepth 100000
set_option maxHeartbeats 4000000
/-! Comprehensions over a name or a pair, in short; the least and the greatest of ints; sorted ints. -/
namespace Fx
open PySem PySem.Spec PyProof.Rows L2
section
variable {T : List (Addr × Str)} {W : Wld T} {G H G1 H1 G2 H2 H0 : Hp} {G0 : Hp × Hp} {c c' k : Nat} {K : PySem.W.Frag}
theorem et_yes {env : Env'} : ET W tYes env true := fun c G0 H0 σ G H A Q q => q G H Stp.refl A.gok A.j
section
variable {α : Type} {wi : TI} {tt : TT} {te : TE} {env : Env'}
theorem set1 {env : Env'} {j : Nat} {s : Slot} : (wipeE env [j]).set j s = env.set j s := by
  show (env.set j .emp).set j s = _
  rw [List.set_set]
theorem set2 {env : Env'} {i j : Nat} {s t : Slot} (ne : i ≠ j) : ((wipeE env [i, j]).set i s).set j t = (env.set i s).set j t := by
  show (((env.set j .emp).set i .emp).set i s).set j t = _
  rw [List.set_set, List.set_comm _ _ ne.symm, List.set_set]
theorem ed_lc1 (xs : List α) (emb : α → D) (f : α → Bool) (g : α → D) {j : Nat} (hs : Src W wi env (xs.map emb)) (hz : xs.length ≤ 100000) (ht : ∀ x ∈ xs, ET W tt (env.set j (.dat (emb x))) (f x)) (he : ∀ x ∈ xs, f x = true → ED W te (env.set j (.dat (emb x))) (g x)) :
    ED W (tLc wi (gName j) tt te [j]) env (.lst ((xs.filter f).map g)) :=
  ed_lc xs emb (fun d => env.set j (.dat d)) f g hs hz (fun x _ => by have := tgc_name (W := W) (d := emb x) (env := wipeE env [j]) (j := j) (vs := [j]) List.mem_cons_self; rwa [set1] at this) ht he
theorem ed_map1 (xs : List α) (emb : α → D) (g : α → D) {j : Nat} (hs : Src W wi env (xs.map emb)) (hz : xs.length ≤ 100000) (he : ∀ x ∈ xs, ED W te (env.set j (.dat (emb x))) (g x)) :
    ED W (tLc wi (gName j) tYes te [j]) env (.lst (xs.map g)) :=
  (ed_lc1 xs emb (fun _ => true) g hs hz (fun _ _ => et_yes) fun x hx _ => he x hx).eq (by rw [List.filter_eq_self.mpr fun _ _ => rfl])
theorem ed_lc2 (xs : List α) (e1 e2 : α → D) (f : α → Bool) (g : α → D) {i j : Nat} (hs : Src W wi env (xs.map fun x => .tup [e1 x, e2 x])) (hz : xs.length ≤ 100000) (ne : i ≠ j) (ht : ∀ x ∈ xs, ET W tt ((env.set i (.dat (e1 x))).set j (.dat (e2 x))) (f x))
    (he : ∀ x ∈ xs, f x = true → ED W te ((env.set i (.dat (e1 x))).set j (.dat (e2 x))) (g x)) : ED W (tLc wi (gTup K 2 (gCons (gName i) (gCons (gName j) gNil))) tt te [i, j]) env (.lst ((xs.filter f).map g)) :=
  ed_lc xs (fun x => .tup [e1 x, e2 x]) (fun d => match d with | .tup [a, b] => (env.set i (.dat a)).set j (.dat b) | _ => env) f g hs hz
    (fun x _ => by
      have := tgc_tup2 (W := W) (K := K) (d1 := e1 x) (d2 := e2 x) (env := wipeE env [i, j]) (i := i) (j := j) (vs := [i, j]) List.mem_cons_self (List.mem_cons_of_mem _ List.mem_cons_self)
      rwa [set2 ne] at this) ht he
theorem ed_map2 (xs : List α) (e1 e2 : α → D) (g : α → D) {i j : Nat} (hs : Src W wi env (xs.map fun x => .tup [e1 x, e2 x])) (hz : xs.length ≤ 100000) (ne : i ≠ j) (he : ∀ x ∈ xs, ED W te ((env.set i (.dat (e1 x))).set j (.dat (e2 x))) (g x)) :
    ED W (tLc wi (gTup K 2 (gCons (gName i) (gCons (gName j) gNil))) tYes te [i, j]) env (.lst (xs.map g)) :=
  (ed_lc2 xs e1 e2 (fun _ => true) g hs hz ne (fun _ _ => et_yes) fun x hx _ => he x hx).eq (by rw [List.filter_eq_self.mpr fun _ _ => rfl])
end
theorem src_eq {wi : TI} {env : Env'} {l l' : List D} (h : Src W wi env l) (e : l = l') : Src W wi env l' := e ▸ h
/-- min, max of a list of ints -/
theorem rdl_minL {ns : List Int} {m : Int} (hm : m ∈ ns) (hle : ∀ y ∈ ns, m ≤ y) : RDL W (rMin K) [dLI ns] (.int m) := fun c G H vs g j r Q q => by
  cases r with
  | cons r1 r2 =>
  cases r2
  cases r1 with
  | lst h rl =>
  rw [RpL.ints rl] at h
  refine ⟨_, ns, rfl, sqL_of g h, List.length_pos_of_mem hm, fun m' hm' hle' => ?_⟩
  have e : m' = m := Int.le_antisymm (hle' m hm) (hle m' hm')
  rw [e]
  exact q.here g j (.int m)
theorem rdl_maxL {ns : List Int} {m : Int} (hm : m ∈ ns) (hle : ∀ y ∈ ns, y ≤ m) : RDL W (rMax K) [dLI ns] (.int m) := fun c G H vs g j r Q q => by
  cases r with
  | cons r1 r2 =>
  cases r2
  cases r1 with
  | lst h rl =>
  rw [RpL.ints rl] at h
  refine ⟨_, ns, rfl, sqL_of g h, List.length_pos_of_mem hm, fun m' hm' hle' => ?_⟩
  have e : m' = m := Int.le_antisymm (hle m' hm') (hle' m hm)
  rw [e]
  exact q.here g j (.int m)
/-- ints ascending -/
def isI (ns : List Int) : List Int := isort (fun a b => decide (a < b)) ns
theorem isI_perm (ns : List Int) : (isI ns).Perm ns := isort_perm _ _
theorem isI_asc (ns : List Int) : (isI ns).Pairwise (· ≤ ·) := by
  have h := isort_srtd swo_int ns
  refine List.Pairwise.imp ?_ h
  intro a b q
  have q : decide (b < a) = false := q
  simpa using q
theorem asc_uniq : ∀ {l m : List Int}, l.Pairwise (· ≤ ·) → m.Pairwise (· ≤ ·) → l.Perm m → l = m := by
  intro l m h1 h2 p
  exact p.eq_of_pairwise (fun a b _ _ h h' => Int.le_antisymm h h') h1 h2
theorem rdl_sortI {ns : List Int} : RDL W (rSortedI K) [dLI ns] (dLI (isI ns)) := fun c G H vs g j r Q q => by
  cases r with
  | cons r1 r2 =>
  cases r2
  cases r1 with
  | lst h rl =>
  rw [RpL.ints rl] at h
  refine ⟨_, ns, rfl, sqL_of g h, fun ns' p pm pw hp => ?_⟩
  have e : ns' = isI ns := asc_uniq pw (isI_asc ns) (pm.trans (isI_perm ns).symm)
  rw [e]
  exact q.newL g j hp (RpL.of_ints _)
/-- tuple(t) -/
theorem rdl_tupT {ds : List D} : RDL W (fun xs H Q => ∃ p ys, xs = [.ref p] ∧ ((SqL K H p ys ∧ ∀ l, H l = none → Q (.ref l) (upd H l (.tup ys))) ∨ (SqT K H p ys ∧ Q (.ref p) H))) [.tup ds] (.tup ds) := fun c G H vs g j r Q q => by
  cases r with
  | cons r1 r2 =>
  cases r2
  cases r1 with
  | tup h rl => exact ⟨_, _, rfl, .inr ⟨sqT_of g h, q.here g j (.tup h rl)⟩⟩
/-- x += e -/
theorem tr_aug1 {te : TE} {env : Env'} {po : Po} {i : Nat} {f : Int → Int → Int} {a b : Int} (he : env[i]? = some (.dat (.int a))) (h : ED W te env (.int b)) (k : po.nx (env.set i (.dat (.int (f a b)))) c) : Tr W (tAug i te (ipI f)) env c po := fun G0 H0 σ G H A E F => by
  obtain ⟨v, hv, r⟩ := A.env.dat _ _ he
  refine ⟨v, hv, h c G0 H0 σ G H A _ fun u G1 H1 s1 g1 j1 r1 => ?_⟩
  cases r
  cases r1
  exact ⟨a, b, rfl, rfl, F.nx _ _ _ _ _ ((A.step s1 g1 j1).setD i (.int _)) k⟩
end
end Fx

set_option Elab.async false
set_option linter.all false
set_option maxRecDepth 100000
set_option maxHeartbeats 4000000
/-! The hand layer's rules with the form's name K told, for blocks within blocks. -/
namespace Fx
open PySem PySem.Spec PyProof.Rows L2
section
variable {X : Cx} (K : PySem.W.Frag)
theorem kin (h : X.K = K := by rfl) : OpR X (compareOp .In) (rIn K false) := by subst h; exact op_in_seq
theorem knin (h : X.K = K := by rfl) : OpR X (compareOp .NotIn) (rIn K true) := by subst h; exact op_notIn_seq
theorem kcatA (h : X.K = K := by rfl) : OpR X (binaryOp .Add) (rCatA K) := by subst h; exact op_catA
theorem keq (hu : X.A.units + 64 < cLine) (h : X.K = K := by rfl) : OpR X (compareOp .Eq) (rEqD K) := by subst h; exact op_eqD hu
theorem kne (hu : X.A.units + 64 < cLine) (h : X.K = K := by rfl) : OpR X (compareOp .NotEq) (rNeD K) := by subst h; exact op_neD hu
theorem kinD (hu : X.A.units + 65 < cLine) (h : X.K = K := by rfl) : OpR X (compareOp .In) (rInD K) := by subst h; exact op_inD hu
theorem kix (h : X.K = K := by rfl) : IxR X (rIx K) := by subst h; exact ix_seq
theorem ksl (h : X.K = K := by rfl) : L2.SlR X (rSlL K) := by subst h; exact sl_list
theorem kslA (h : X.K = K := by rfl) : L2.SlR X (rSlA K) := by subst h; exact sl_tupA
theorem kany (hc : X.calm = true) (h : X.K = K := by rfl) : CallR X (.builtin "any") (rAny K) := by subst h; exact cr_any hc
theorem kall (hc : X.calm = true) (h : X.K = K := by rfl) : CallR X (.builtin "all") (rAll K) := by subst h; exact cr_all hc
theorem kmin (hc : X.calm = true) (h : X.K = K := by rfl) : CallR X (.builtin "min") (rMin K) := by subst h; exact cr_min hc
theorem kmax (hc : X.calm = true) (h : X.K = K := by rfl) : CallR X (.builtin "max") (rMax K) := by subst h; exact cr_max hc
theorem ksort (h : X.K = K := by rfl) : CallR X (.builtin "sorted") (rSortedI K) := by subst h; exact cr_sortedI
theorem klen (h : X.K = K := by rfl) : CallR X (.builtin "len") (fun xs H Q => ∃ p ys, xs = [.ref p] ∧ (SqL K H p ys ∨ SqT K H p ys) ∧ Q (.int ys.length) H) := by subst h; exact call_len_seq
theorem kisi (h : X.K = K := by rfl) : CallR X (.builtin "isinstance") (rIsi K) := by subst h; exact call_isi
theorem kisiT (h : X.K = K := by rfl) : CallR X (.builtin "isinstance") (rIsiT K) := by subst h; exact call_isiT
theorem klist (h : X.K = K := by rfl) : CallR X (.type "list") (fun xs H Q => ∃ p ys, xs = [.ref p] ∧ (SqL K H p ys ∨ SqT K H p ys) ∧ ∀ l, H l = none → Q (.ref l) (upd H l (.lst ys))) := by subst h; exact call_list_of
theorem ktuple (h : X.K = K := by rfl) : CallR X (.type "tuple") (fun xs H Q => ∃ p ys, xs = [.ref p] ∧ ((SqL K H p ys ∧ ∀ l, H l = none → Q (.ref l) (upd H l (.tup ys))) ∨ (SqT K H p ys ∧ Q (.ref p) H))) := by subst h; exact call_tuple_of
theorem kpi_list {tg l : Expr} {tl : TE} (hl : PE X l tl) (h : X.K = K := by rfl) : PI X tg l (iList K tl) := by subst h; exact pi_list hl
theorem kpi_tup {tg l : Expr} {tl : TE} (hl : PE X l tl) (h : X.K = K := by rfl) : PI X tg l (iTup K tl) := by subst h; exact pi_tup hl
theorem kpi_enum {e : Expr} {ta : TA} {p pos tpos : Pos} {elts : List Expr} {kk : Nat} (hg : Gl X "enumerate") (hm : X.mg "enumerate" = none) (ha : PA X [e] ta) (hs : starEach [e] X.env = [(false, eval e X.env)] := by rfl) (h : X.K = K := by rfl) :
    PI X (.Tuple elts kk tpos) (.Call (.Name "enumerate" p) [e] [] pos) (iEnum K ta) := by subst h; exact pi_enum hg hm ha hs
theorem kpi_zip {e e2 : Expr} {ta : TA} {p pos tpos : Pos} {elts : List Expr} {kk : Nat} (hg : Gl X "zip") (hm : X.mg "zip" = none) (ha : PA X [e, e2] ta)
    (hs : starEach [e, e2] X.env = (false, eval e X.env) :: starEach [e2] X.env := by rfl) (hpl : (backTo pos (starEach [e2] X.env)).any (·.1) = false := by rfl) (h : X.K = K := by rfl) :
    PI X (.Tuple elts kk tpos) (.Call (.Name "zip" p) [e, e2] [] pos) (RZ.iZipA K ta) := by subst h; exact RZ.pi_zipA hg hm ha hs hpl
theorem kstar {e : Expr} {es : List Expr} {p : Pos} {te : TE} {t : TA} (he : PE X e te) (hr : PA X es t) (hs : starEach (.Starred e p :: es) X.env = (true, eval e X.env) :: starEach es X.env := by rfl) (h : X.K = K := by rfl) : PA X (.Starred e p :: es) (StX.tStar K te t) := by subst h; exact StX.pa_star he hr hs
end
end Fx

set_option Elab.async false
set_option linter.all false
set_option maxRecDepth 100000
set_option maxHeartbeats 4000000
/-! Dicts as data: made by a comprehension, locked for good, read, walked. -/
namespace Fx
open PySem PySem.Spec PyProof.Rows L2
/-- what is made is locked for good -/
def tFrz (t : TE) : TE := fun σ H Q => t σ H fun v H' => ∃ d u, v = .ref d ∧ H' d = some u ∧ Mut (some u) ∧ ∀ od, Q v (upd H' d (.frz od u))
theorem pe_frz {X : Cx} {e : Expr} {t : TE} (h : PE X e t) : PE X e (tFrz t) := by
  refine ⟨fun pins s σ H Q I hw => ?_⟩
  refine thn (h.run pins s σ H _ I hw) fun v s1 ⟨x, H1, I1, r, d, u, ex, hd, mu, q⟩ => ?_
  subst ex
  obtain ⟨od, I2⟩ := I1.lock hd mu
  exact ⟨.ref d, _, I2, r, q od⟩
theorem klenD {X : Cx} : CallR X (.builtin "len") (fun xs H Q => ∃ a kvs, xs = [V.ref a] ∧ Rd H a (.dK kvs) ∧ Q (.int kvs.length) H) := by
  intro pins s σ H xs us Q I r h
  obtain ⟨a, kvs, rfl, ha, q⟩ := h
  obtain ⟨u, rfl, ru⟩ := vals1 r
  cases ru
  exact d_len I ha fun t s' I' => ⟨.int kvs.length, H, I', ⟨t, rfl⟩, q⟩
def kD : Key → D
  | .inl i => .int i
  | .inr s => .str s
theorem rp_key {G : Hp} : ∀ {k : Key}, Rp G (kV k) (kD k)
  | .inl i => .int i
  | .inr s => .str s
def lkD (kds : List (Key × D)) (k : Key) : Option D := (kds.find? fun kv => decide (kv.1 = k)).map (·.2)
theorem RpK.len {G : Hp} : ∀ {vs : List (Key × V)} {ds : List (Key × D)}, RpK G vs ds → vs.length = ds.length
  | _, _, .nil => rfl
  | _, _, .cons _ r => congrArg (· + 1) (RpK.len r)
theorem RpK.app {G : Hp} : ∀ {vs ws : List (Key × V)} {ds es : List (Key × D)}, RpK G vs ds → RpK G ws es → RpK G (vs ++ ws) (ds ++ es)
  | _, _, _, _, .nil, s => s
  | _, _, _, _, .cons h r, s => .cons h (RpK.app r s)
theorem RpK.lk {G : Hp} {k : Key} {d : D} : ∀ {vs : List (Key × V)} {ds : List (Key × D)}, RpK G vs ds → lkD ds k = some d → ∃ v, valV vs k = some v ∧ Rp G v d
  | _, _, .nil, e => by simp [lkD] at e
  | _, _, .cons (k := k') (v := v) (vs := vs) (d := d') (ds := ds) h r, e => by
    by_cases ek : k' = k
    · refine ⟨v, valV_pos ek, ?_⟩
      have : lkD ((k', d') :: ds) k = some d' := by simp [lkD, List.find?_cons, ek]
      rw [this] at e
      cases e
      exact h
    · have : lkD ((k', d') :: ds) k = lkD ds k := by simp [lkD, List.find?_cons, ek]
      rw [this] at e
      obtain ⟨w, h1, h2⟩ := RpK.lk r e
      exact ⟨w, by rw [valV_neg ek]; exact h1, h2⟩
theorem RpK.keys {G : Hp} : ∀ {vs : List (Key × V)} {ds : List (Key × D)}, RpK G vs ds → vs.map (·.1) = ds.map (·.1)
  | _, _, .nil => rfl
  | _, _, .cons _ r => by rw [List.map_cons, List.map_cons, RpK.keys r]
section
variable {T : List (Addr × Str)} {W : Wld T} {G H G1 H1 G2 H2 H0 : Hp} {G0 : Hp × Hp} {c c' k : Nat} {K : PySem.W.Frag}
theorem its_keys {d : Addr} {o : Obj} {kvs : List (Key × V)} {kds : List (Key × D)} (h : G d = some (.frz o (.dK kvs))) (r : RpK G kvs kds) : Its W (Itk d o kvs) G (kds.map fun p => kD p.1) := by
  have hl := r.len
  have hk := r.keys
  refine ⟨fun i G2 H2 g e _ hi => ⟨g.same _ _ (e _ _ h), by rw [hl]; simpa using hi⟩, fun i G2 H2 g e _ hi => ⟨g.same _ _ (e _ _ h), by rw [hl]; simpa using hi⟩, fun i d' c G2 H2 x H' g e j hd y => ?_⟩
  obtain ⟨rfl, k, v, hk1, rfl⟩ := y
  refine ⟨G2, Stp.refl, g, j, ?_⟩
  rw [List.getElem?_map] at hd
  have e1 : (kvs.map (·.1))[i]? = some k := by rw [List.getElem?_map, hk1]; rfl
  rw [hk, List.getElem?_map] at e1
  cases q : kds[i]? with
  | none => rw [q] at e1; cases e1
  | some p =>
    rw [q] at e1 hd
    cases e1
    cases hd
    exact rp_key
theorem src_keys {td : TE} {env : Env'} {kds : List (Key × D)} (h : ED W td env (.dic kds)) : Src W (iKeys td) env (kds.map fun p => kD p.1) := fun c G0 H0 σ G H A R q =>
  h c G0 H0 σ G H A _ fun v G1 H1 s1 g1 j1 r1 => by
    cases r1 with
    | dic h1 l1 => exact ⟨_, _, rfl, .inl ⟨_, g1.same _ _ h1, q _ _ _ s1 g1 j1 (its_keys h1 l1)⟩⟩
theorem ed_dget {td ty : TE} {env : Env'} {kds : List (Key × D)} {k : Key} {d : D} (h : ED W td env (.dic kds)) (hy : ED W ty env (kD k)) (e : lkD kds k = some d) : ED W (tDGet td ty) env d := fun c G0 H0 σ G H A Q q =>
  h c G0 H0 σ G H A _ fun v G1 H1 s1 g1 j1 r1 => hy c G0 H0 σ G1 H1 (A.step s1 g1 j1) _ fun v2 G2 H2 s2 g2 j2 r2 => by
    cases r1 with
    | dic h1 l1 =>
      obtain ⟨w, e1, e2⟩ := l1.lk e
      have ek : v2 = kV k := by
        cases k with
        | inl i => cases r2; rfl
        | inr i => cases r2; rfl
      exact ⟨_, _, rfl, .inl ⟨_, k, .inr ⟨_, g2.same _ _ (s2.gg _ _ h1)⟩, ek, e1.symm⟩, q _ G2 H2 (s1.trans s2) g2 j2 (e2.mono s2.gg)⟩
theorem rdl_lenD {kds : List (Key × D)} : RDL W (fun xs H Q => ∃ a kvs, xs = [V.ref a] ∧ Rd H a (.dK kvs) ∧ Q (.int kvs.length) H) [.dic kds] (.int kds.length) := fun c G H vs g j r Q q => by
  cases r with
  | cons r1 r2 =>
  cases r2
  cases r1 with
  | dic h1 l1 => exact ⟨_, _, rfl, .inr ⟨_, g.same _ _ h1⟩, q.here g j (by rw [l1.len]; exact .int _)⟩
/-- {k: v for x in xs}, the keys differ -/
theorem ed_dc {α : Type} (xs : List α) (emb : α → D) (envT : D → Env') (key : α → Key) (g : α → D) {wi : TI} {tg : TG} {tk te : TE} {vs : List Nat} {env : Env'} (hs : Src W wi env (xs.map emb)) (hz : xs.length ≤ 100000)
    (htg : ∀ x ∈ xs, TgC W tg vs (emb x) (wipeE env vs) (envT (emb x))) (hk : ∀ x ∈ xs, ED W tk (envT (emb x)) (kD (key x))) (he : ∀ x ∈ xs, ED W te (envT (emb x)) (g x)) (hn : (xs.map key).Nodup) :
    ED W (tFrz (tDc wi tg tYes tk te vs)) env (.dic (xs.map fun x => (key x, g x))) := by
  intro c G0 H0 σ G H A Q q
  refine hs c G0 H0 σ G H A _ fun J G1 H1 s1 g1 j1 its => ?_
  intro Dl hD
  have gD : G1 Dl = none := g1.none hD
  have mD : ¬ W.M Dl := fun m => W.mtr j1 m (nf_none hD)
  have nD := nf_none hD
  refine ⟨fun i m H' => m = xs.length - i ∧ i ≤ xs.length ∧ ∃ (G' : Hp) (acc : List (Key × V)), Stp W G1 H1 G' H' ∧ GOk W G' H' ∧ W.J c H' ∧ H' Dl = some (.dK acc) ∧ G' Dl = none ∧ RpK G' acc ((xs.take i).map fun x => (key x, g x)),
    ⟨xs.length, by simp, Nat.zero_le _, G1, [], stp_upd Stp.refl nD (noTb_dK _), gok_upd g1 gD, J_new j1 hD, upd_same, gD, .nil⟩, ?_⟩
  rintro i m H' ⟨rfl, hi, G', acc, s', g', j', hDl, gDl, rA⟩
  by_cases hlt : i < xs.length
  · refine .inr ⟨its.go i G' H' g' s'.gg ⟨_, j'⟩ (by simpa using hlt), fun H'' => i + 1 ≤ xs.length ∧ ∃ (G' : Hp) (acc : List (Key × V)), Stp W G1 H1 G' H'' ∧ GOk W G' H'' ∧ W.J c H'' ∧ H'' Dl = some (.dK acc) ∧ G' Dl = none ∧ RpK G' acc ((xs.take (i + 1)).map fun x => (key x, g x)),
      fun H'' h => ⟨xs.length - (i + 1), by omega, rfl, h⟩, fun x H2 hy => ?_⟩
    have hx : (xs.map emb)[i]? = some (emb xs[i]) := by rw [List.getElem?_map, List.getElem?_eq_getElem hlt]; rfl
    obtain ⟨G2, s2, g2, j2, r2⟩ := its.yld i _ _ G' H' x H2 g' s'.gg j' hx hy
    have hmem : xs[i] ∈ xs := List.getElem_mem hlt
    have A2 := ((A.step s1 g1 j1).step (s'.trans s2) g2 j2).wipe vs
    refine htg _ hmem _ _ _ _ _ _ x A2 r2 _ fun σ3 w3 A3 => ⟨w3.trans wipe_wipe, ?_⟩
    refine et_yes _ _ _ _ _ _ A3 _ fun G3 H3 s3 g3 j3 => ?_
    refine (if_pos rfl).mpr ?_
    refine hk _ hmem _ _ _ _ _ _ (A3.step s3 g3 j3) _ fun y G4 H4 s4 g4 j4 r4 => ?_
    refine he _ hmem _ _ _ _ _ _ ((A3.step s3 g3 j3).step s4 g4 j4) _ fun z G5 H5 s5 g5 j5 r5 => ?_
    have d2 := s2.hh Dl _ hDl mD (noTb_dK _)
    have d3 := s3.hh Dl _ d2 mD (noTb_dK _)
    have d4 := s4.hh Dl _ d3 mD (noTb_dK _)
    have d5 := s5.hh Dl _ d4 mD (noTb_dK _)
    have n2 := s2.gone gDl hDl (noTb_dK _)
    have n3 := s3.gone n2 d2 (noTb_dK _)
    have n4 := s4.gone n3 d3 (noTb_dK _)
    have n5 := s5.gone n4 d4 (noTb_dK _)
    have rA5 := (((rA.mono s2.gg).mono s3.gg).mono s4.gg).mono s5.gg
    have ek : y = kV (key xs[i]) := by
      cases h : key xs[i] with
      | inl i => rw [h] at r4; cases r4; rfl
      | inr i => rw [h] at r4; cases r4; rfl
    have hacc : acc.length = i := by rw [rA.len, List.length_map, List.length_take]; omega
    have hnew : valV acc (key xs[i]) = none := by
      cases hv : valV acc (key xs[i]) with
      | none => rfl
      | some w =>
        exfalso
        have hin : key xs[i] ∈ acc.map (·.1) := by
          unfold valV at hv
          cases hf : acc.find? fun kv => decide (kv.1 = key xs[i]) with
          | none => rw [hf] at hv; cases hv
          | some p =>
            have h1 := List.mem_of_find?_eq_some hf
            have h2 : p.1 = key xs[i] := by have := List.find?_some hf; simpa using this
            exact List.mem_map.mpr ⟨p, h1, h2⟩
        rw [rA.keys, List.map_map] at hin
        obtain ⟨z, hz1, hz2⟩ := List.mem_map.mp hin
        obtain ⟨jj, hj, ej⟩ := List.mem_iff_getElem.mp hz1
        rw [List.length_take] at hj
        rw [List.getElem_take] at ej
        have hz2 : key z = key xs[i] := hz2
        have hj' : jj < xs.length := by omega
        have e1 : (xs.map key)[jj]'(by simpa using hj') = (xs.map key)[i]'(by simpa using hlt) := by
          rw [List.getElem_map, List.getElem_map, ej, hz2]
        have := List.pairwise_iff_getElem.mp hn jj i (by simpa using hj') (by simpa using hlt) (by omega)
        exact this e1
    refine ⟨acc, key xs[i], ek, d5, Nat.lt_of_lt_of_le (Nat.lt_of_le_of_lt (by omega : acc.length ≤ 100000) (by decide : 100000 < 100001)) (by decide), hlt, G5, acc ++ [(key xs[i], z)], ?_, gok_upd g5 n5, ?_, ?_, n5, ?_⟩
    · exact stp_upd ((((s'.trans s2).trans s3).trans s4).trans s5) nD (noTb_dK _)
    · rw [putK_new _ hnew]
      exact W.upddk j5 mD d5
    · rw [putK_new _ hnew]; exact upd_same
    · rw [List.take_succ_eq_append_getElem hlt, List.map_append]
      exact rA5.app (.cons r5 .nil)
  · have e : i = xs.length := by omega
    subst e
    refine .inl ⟨its.stop _ G' H' g' s'.gg ⟨_, j'⟩ (by simp), Dl, _, rfl, hDl, True.intro, fun od => ?_⟩
    rw [List.take_length] at rA
    have hDn : Nf H Dl := s1.dom Dl nD
    exact q (.ref Dl) (upd G' Dl (.frz od (.dK acc))) (upd H' Dl (.frz od (.dK acc))) (stp_frz (stp_upd (s1.trans s') hDn (noTb_frz _ _)) hDn gDl) (gok_frz (gok_upd g' gDl) upd_same (noTb_frz _ _) mD) (W.upddk j' mD hDl) (.dic upd_same (rA.mono (same_new gDl _)))
end
end Fx

set_option Elab.async false
set_option linter.all false
set_option maxRecDepth 100000
set_option maxHeartbeats 4000000
/-! The law's script and its draws: worlds. -/
namespace Fx
open PySem PySem.Spec PyProof.Rows L2
section
variable {T : List (Addr × Str)} {G H G1 H1 G2 H2 H0 : Hp} {G0 : Hp × Hp} {c c' k : Nat} {K : PySem.W.Frag}
theorem sqL_at {H H' : Hp} {a : Addr} {xs : List V} (e : H' a = H a) (h : SqL K H a xs) : SqL K H' a xs := by
  unfold SqL Rd at h ⊢
  rw [e]
  exact h
/-- the script at a -/
def WS (T : List (Addr × Str)) (K : PySem.W.Frag) (a : Addr) (ns : List Int) (Pm : Prop) : Wld T where
  M := fun b => b = a ∧ Pm
  J := fun _ H => LamX.Tabs T H ∧ (Pm → ∃ o, H a = some o ∧ NoTb o ∧ SqL K H a (ns.map V.int)) ∧ (¬ Pm → ∀ H', SqL K H' a (ns.map V.int))
  tabs := fun h => h.1
  mono := fun _ h => h
  pure := fun ⟨t, h1, h2⟩ e t' => ⟨t', fun p => let ⟨o, ho, n, q⟩ := h1 p; ⟨o, e _ _ ho n, n, sqL_at (by rw [ho, e _ _ ho n]) q⟩, h2⟩
  mtr := fun ⟨t, h1, h2⟩ ⟨e, p⟩ nf => let ⟨o, ho, n, q⟩ := h1 p; nf_no ho n (e ▸ nf)
  updl := fun {c H l xs ys} ⟨t, h1, h2⟩ m hl => ⟨tabs_upd t hl, fun p => by
    obtain ⟨o, ho, n, q⟩ := h1 p
    have ne : a ≠ l := fun z => m ⟨z.symm, p⟩
    exact ⟨o, by rw [upd_ne ne]; exact ho, n, sqL_at (upd_ne ne) q⟩, h2⟩
  upddk := fun {c H l xs o'} ⟨t, h1, h2⟩ m hl => ⟨tabs_updd t hl, fun p => by
    obtain ⟨o, ho, n, q⟩ := h1 p
    have ne : a ≠ l := fun z => m ⟨z.symm, p⟩
    exact ⟨o, by rw [upd_ne ne]; exact ho, n, sqL_at (upd_ne ne) q⟩, h2⟩
theorem ws_sq {a : Addr} {ns : List Int} {Pm : Prop} (j : (WS T K a ns Pm).J c H) : SqL K H a (ns.map V.int) := by
  by_cases p : Pm
  · obtain ⟨o, _, _, q⟩ := j.2.1 p; exact q
  · exact j.2.2 p H
theorem ws_start {a : Addr} {ns : List Int} (t : LamX.Tabs T H) (h : SqL K H a (ns.map V.int)) : (WS T K a ns (Rd H a (.lst (ns.map V.int)))).J c H := by
  refine ⟨t, fun p => ?_, fun n H' => ?_⟩
  · rcases p with p | ⟨o, p⟩
    · exact ⟨_, p, noTb_lst _, h⟩
    · exact ⟨_, p, noTb_frz _ _, h⟩
  · rcases h with h | h
    · exact absurd h n
    · exact .inr h

/-- what the draws' dict holds -/
def stD (lw lc : Addr) (r t : Int) : List (Key × V) := [(.inr "wide", .ref lw), (.inr "cells", .ref lc), (.inr "rest", .int r), (.inr "turn", .int t)]
structure DrSt (MW : Addr → Prop) (S lw lc : Addr) (cells : List Int) (c : Nat) (H : Hp) (ws : List Int) (r t : Int) : Prop where
  s : H S = some (.dK (stD lw lc r t))
  w : H lw = some (.lst (ws.map V.int))
  l : H lc = some (.lst (cells.map V.int))
  w0 : ∀ x ∈ ws, 0 ≤ x
  r0 : 0 ≤ r
  t0 : 0 ≤ t
  tc : t ≤ c
  ne : lw ≠ lc
  mS : ¬ MW S
  mw : ¬ MW lw
def WDr (W : Wld T) (S lw lc : Addr) (cells : List Int) : Wld T where
  M := fun b => W.M b ∨ b = S ∨ b = lw ∨ b = lc
  J := fun c H => W.J c H ∧ ∃ ws r t, DrSt W.M S lw lc cells c H ws r t
  tabs := fun h => W.tabs h.1
  mono := fun hc ⟨h, ws, r, t, d⟩ => ⟨W.mono hc h, ws, r, t, { d with tc := Int.le_trans d.tc (by omega) }⟩
  pure := fun ⟨h, ws, r, t, d⟩ e tb => ⟨W.pure h e tb, ws, r, t, { d with s := e _ _ d.s (noTb_dK _), w := e _ _ d.w (noTb_lst _), l := e _ _ d.l (noTb_lst _) }⟩
  mtr := fun ⟨h, ws, r, t, d⟩ m nf => by
    rcases m with m | rfl | rfl | rfl
    · exact W.mtr h m nf
    · exact nf_no d.s (noTb_dK _) nf
    · exact nf_no d.w (noTb_lst _) nf
    · exact nf_no d.l (noTb_lst _) nf
  updl := fun {c H l xs ys} ⟨h, ws, r, t, d⟩ m hl => ⟨W.updl h (fun z => m (.inl z)) hl, ws, r, t, { d with
    s := by rw [upd_ne (fun z => m (.inr (.inl z.symm)))]; exact d.s
    w := by rw [upd_ne (fun z => m (.inr (.inr (.inl z.symm))))]; exact d.w
    l := by rw [upd_ne (fun z => m (.inr (.inr (.inr z.symm))))]; exact d.l }⟩
  upddk := fun {c H l xs ys} ⟨h, ws, r, t, d⟩ m hl => ⟨W.upddk h (fun z => m (.inl z)) hl, ws, r, t, { d with
    s := by rw [upd_ne (fun z => m (.inr (.inl z.symm)))]; exact d.s
    w := by rw [upd_ne (fun z => m (.inr (.inr (.inl z.symm))))]; exact d.w
    l := by rw [upd_ne (fun z => m (.inr (.inr (.inr z.symm))))]; exact d.l }⟩
/-- a thing of the world is changed -/
theorem stp_w {W : Wld T} {a : Addr} {o : HO} (m : W.M a) (n : NoTb o) : Stp W G H G (upd H a o) :=
  ⟨fun _ _ h => h, fun b u h nm _ => by rw [upd_ne (fun (z : b = a) => nm (by rw [z]; exact m))]; exact h, fun _ h => .inl h, fun b h => by
    by_cases e : b = a
    · exact absurd h (by rw [e]; exact nf_no upd_same n)
    · unfold Nf at h ⊢; rw [upd_ne e] at h; exact h⟩
theorem gok_w {W : Wld T} {a : Addr} {o : HO} (m : W.M a) (g : GOk W G H) : GOk W G (upd H a o) := fun b u h => by
  obtain ⟨h1, h2, h3⟩ := g b u h
  exact ⟨by rw [upd_ne (fun (z : b = a) => h3 (by rw [z]; exact m))]; exact h1, h2, h3⟩
section
variable {W : Wld T} {S lw lc : Addr} {cells : List Int} {env : Env'} {i : Nat} {po : Po}
theorem tr_ifN {tt : TT} {t u : TS} {n : Nat} {P : Bool → Prop} (h : ETN W tt env c n P) (h1 : P true → Tr W t env (c + n) po) (h2 : P false → Tr W u env (c + n) po) : Tr W (tIfS tt t u) env c po := fun G0 H0 σ G H A E F =>
  h G0 H0 σ G H A _ fun b G1 H1 s1 g1 j1 p => by
    cases b with
    | true => exact h1 p _ _ _ _ _ (A.step s1 g1 j1) E F
    | false => exact h2 p _ _ _ _ _ (A.step s1 g1 j1) E F
theorem DrSt.putR {MW : Addr → Prop} {ws : List Int} {r t r' : Int} (d : DrSt MW S lw lc cells c H ws r t) (h : 0 ≤ r') : DrSt MW S lw lc cells c (upd H S (.dK (putK (stD lw lc r t) (.inr "rest") (.int r')))) ws r' t :=
  { d with s := upd_same, w := by rw [upd_ne (ne_of d.w d.s (fun z => by cases z))]; exact d.w, l := by rw [upd_ne (ne_of d.l d.s (fun z => by cases z))]; exact d.l, r0 := h }
theorem DrSt.putT {MW : Addr → Prop} {ws : List Int} {r t t' : Int} (d : DrSt MW S lw lc cells c H ws r t) (h : 0 ≤ t') (h2 : t' ≤ c') : DrSt MW S lw lc cells c' (upd H S (.dK (putK (stD lw lc r t) (.inr "turn") (.int t')))) ws r t' :=
  { d with s := upd_same, w := by rw [upd_ne (ne_of d.w d.s (fun z => by cases z))]; exact d.w, l := by rw [upd_ne (ne_of d.l d.s (fun z => by cases z))]; exact d.l, t0 := h, tc := h2 }
theorem en_rest (h : env[i]? = some (.dat (.raw (.ref S)))) : EN (WDr W S lw lc cells) (tDGet (tVar i) (tC (.str "rest"))) env c 0 (fun d => ∃ r : Int, d = .int r ∧ 0 ≤ r) := fun G0 H0 σ G H A Q q => by
  obtain ⟨v, e, r1⟩ := A.env.dat i _ h
  cases r1
  obtain ⟨jw, ws, r, t, d⟩ := A.j
  exact ⟨_, e, S, .int r, rfl, DGet.k (k := .inr "rest") d.s, q (.int r) (.int r) G H Stp.refl A.gok A.j (.int r) ⟨r, rfl, d.r0⟩⟩
theorem en_turn (h : env[i]? = some (.dat (.raw (.ref S)))) : EN (WDr W S lw lc cells) (tDGet (tVar i) (tC (.str "turn"))) env c 0 (fun d => ∃ t : Int, d = .int t ∧ 0 ≤ t ∧ t ≤ c) := fun G0 H0 σ G H A Q q => by
  obtain ⟨v, e, r1⟩ := A.env.dat i _ h
  cases r1
  obtain ⟨jw, ws, r, t, d⟩ := A.j
  exact ⟨_, e, S, .int t, rfl, DGet.k (k := .inr "turn") d.s, q (.int t) (.int t) G H Stp.refl A.gok A.j (.int t) ⟨t, rfl, d.t0, d.tc⟩⟩
theorem len_putK (kvs : List (Key × V)) (h : kvs.length = 4) : kvs.length < sizeLine := by rw [h]; decide
theorem tr_putR {tv : TE} {n : Nat} (h : env[i]? = some (.dat (.raw (.ref S)))) (hv : EN (WDr W S lw lc cells) tv env c n (fun d => ∃ r : Int, d = .int r ∧ 0 ≤ r)) (k : po.nx env (c + n)) : Tr (WDr W S lw lc cells) (sDPut (tVar i) (tC (.str "rest")) tv) env c po := fun G0 H0 σ G H A E F =>
  hv G0 H0 σ G H A _ fun v d G2 H2 s g j r1 ⟨x, ex, x0⟩ => by
    subst ex
    cases r1
    have A2 := A.step s g j
    obtain ⟨v, e, r2⟩ := A2.env.dat i _ h
    cases r2
    obtain ⟨jw, ws, r, t, d⟩ := j
    have mS : (WDr W S lw lc cells).M S := .inr (.inl rfl)
    refine ⟨_, e, S, _, rfl, .inl ⟨_, .inr "rest", d.s, rfl, len_putK _ rfl, rfl⟩, F.nx _ _ _ _ _ (A2.step (stp_w mS (noTb_dK _)) (gok_w mS g) ⟨W.upddk jw d.mS d.s, ws, x, t, d.putR x0⟩) k⟩
theorem tr_putT {tv : TE} {n : Nat} (h : env[i]? = some (.dat (.raw (.ref S)))) (hv : EN (WDr W S lw lc cells) tv env c n (fun d => ∃ r : Int, d = .int r ∧ 0 ≤ r ∧ r ≤ (c + n + 1 : Nat))) (k : po.nx env (c + n + 1)) : Tr (WDr W S lw lc cells) (sDPut (tVar i) (tC (.str "turn")) tv) env c po := fun G0 H0 σ G H A E F =>
  hv G0 H0 σ G H A _ fun v d G2 H2 s g j r1 ⟨x, ex, x0, x1⟩ => by
    subst ex
    cases r1
    have A2 := A.step s g j
    obtain ⟨v, e, r2⟩ := A2.env.dat i _ h
    cases r2
    obtain ⟨jw, ws, r, t, d⟩ := j
    have mS : (WDr W S lw lc cells).M S := .inr (.inl rfl)
    refine ⟨_, e, S, _, rfl, .inl ⟨_, .inr "turn", d.s, rfl, len_putK _ rfl, rfl⟩, F.nx _ _ _ _ _ (A2.step (stp_w mS (noTb_dK _)) (gok_w mS g) ⟨W.mono (by omega) (W.upddk jw d.mS d.s), ws, r, x, d.putT x0 x1⟩) k⟩
theorem src_cells (h : env[i]? = some (.dat (.raw (.ref S)))) : Src (WDr W S lw lc cells) (iList K (tDGet (tVar i) (tC (.str "cells")))) env (cells.map .int) := fun c G0 H0 σ G H A R q => by
  obtain ⟨v, e, r1⟩ := A.env.dat i _ h
  cases r1
  obtain ⟨jw, ws, r, t, d⟩ := A.j
  refine ⟨_, e, S, .ref lc, rfl, DGet.k (k := .inr "cells") d.s, lc, rfl, ⟨_, SqL.of d.l⟩, q _ G H Stp.refl A.gok A.j ⟨fun i G2 H2 g e2 ⟨c2, j2⟩ hi => ?_, fun i G2 H2 g e2 ⟨c2, j2⟩ hi => ?_, fun i d2 c2 G2 H2 x H' g e2 j hd y => ?_⟩⟩
  · obtain ⟨_, ws2, _, _, d2⟩ := j2
    rw [List.length_map] at hi
    exact ⟨_, .int cells[i], SqL.of d2.l, by rw [List.getElem?_map, List.getElem?_eq_getElem hi]; rfl⟩
  · obtain ⟨_, ws2, _, _, d2⟩ := j2
    rw [List.length_map] at hi
    exact ⟨_, SqL.of d2.l, by rw [List.length_map]; exact hi⟩
  · obtain ⟨rfl, hy⟩ := y
    have j2 := j
    obtain ⟨_, ws2, _, _, d3⟩ := j2
    have := hy _ (SqL.of d3.l)
    rw [List.getElem?_map] at this hd
    cases q2 : cells[i]? with
    | none => rw [q2] at hd; cases hd
    | some z =>
      rw [q2] at this hd
      cases this
      cases hd
      exact ⟨G2, Stp.refl, g, j, .int z⟩
/-- where nothing is left, the next number: of the wide ones, or mixed up -/
theorem en_next {tm : TE} (h : env[i]? = some (.dat (.raw (.ref S)))) (hm : EN (WDr W S lw lc cells) tm env c 1 (fun d => ∃ r : Int, d = .int r ∧ 0 ≤ r)) :
    EN (WDr W S lw lc cells) (tIf (tTest (tOp (rNeD K) (tDGet (tVar i) (tC (.str "wide"))) (tLst tNil))) (tBM K "list" rPopAt (tDGet (tVar i) (tC (.str "wide"))) (tCons (tC (.int 0)) tNil)) tm) env c 1 (fun d => ∃ r : Int, d = .int r ∧ 0 ≤ r) := fun G0 H0 σ G H A Q q => by
  obtain ⟨v, e, r1⟩ := A.env.dat i _ h
  cases r1
  have j0 := A.j
  obtain ⟨jw, ws, r, t, d⟩ := j0
  refine ⟨_, e, S, .ref lw, rfl, DGet.k (k := .inr "wide") d.s, Nat.zero_le _, fun p hp => ?_⟩
  have j1 : (WDr W S lw lc cells).J c (upd H p (.lst [])) := J_new A.j hp
  have A1 := A.step (stp_new A.gok hp (o := .lst [])) (gok_new A.gok A.j hp (noTb_lst _)) j1
  have same := same_new hp (HO.lst [])
  have d1 : DrSt W.M S lw lc cells c (upd H p (.lst [])) ws r t := { d with s := same _ _ d.s, w := same _ _ d.w, l := same _ _ d.l }
  have dp1 : Dp K (upd H p (.lst [])) (.ref lw) (dLI ws).py := by
    refine Rp.dp (T := T) (W := W0 T) (G := fun b => if b = lw then some (.lst (ws.map V.int)) else none) (fun b o hb => ?_) ok_dLI (.lst (if_pos rfl) (RpL.of_ints ws))
    by_cases eb : b = lw
    · subst eb
      have hb' := (if_pos rfl).symm.trans hb
      cases hb'
      exact ⟨d1.w, noTb_lst _, fun z => z⟩
    · have hb' := (if_neg eb).symm.trans hb; cases hb'
  have dp2 : Dp K (upd H p (.lst [])) (.ref p) (dLI []).py := by
    refine Rp.dp (T := T) (W := W0 T) (G := fun b => if b = p then some (.lst []) else none) (fun b o hb => ?_) ok_dLI (.lst (if_pos rfl) .nil)
    by_cases eb : b = p
    · subst eb
      have hb' := (if_pos rfl).symm.trans hb
      cases hb'
      exact ⟨upd_same, noTb_lst _, fun z => z⟩
    · have hb' := (if_neg eb).symm.trans hb; cases hb'
  refine ⟨_, _, dp1, dp2, shaped_of_ok ok_dLI, shaped_of_ok ok_dLI, ?_⟩
  have eq : PyData.eqv (dLI ws).py (dLI []).py = decide (ws = []) := eqv_dLI
  rw [eq]
  refine ⟨_, rfl, ?_⟩
  cases ws with
  | nil =>
    refine (if_neg (by simp)).mpr ?_
    exact hm G0 H0 σ _ _ A1 Q fun v d G2 H2 s g j r p => q v d G2 H2 ((stp_new A.gok hp).trans s) g j r p
  | cons x ws =>
    refine (if_pos (by simp)).mpr ?_
    have mw : (WDr W S lw lc cells).M lw := .inr (.inr (.inl rfl))
    refine ⟨_, e, S, .ref lw, rfl, DGet.k (k := .inr "wide") d1.s, (.inl ⟨rfl, _, SqL.of d1.w⟩), lw, _, 0, 0, .int x, rfl, rfl, d1.w, by decide, by decide, by unfold seqIndex?; simp, rfl, ?_⟩
    refine q (.int x) (.int x) (upd G p (.lst [])) _ ((stp_new A.gok hp).trans (stp_w mw (noTb_lst _))) (gok_w mw A1.gok) ?_ (.int x) ⟨x, rfl, d.w0 x List.mem_cons_self⟩
    refine ⟨W.mono (by omega) (W.updl A1.j.1 d.mw d1.w), ws, r, t, { d1 with s := by rw [upd_ne (ne_of d1.s d1.w (fun z => by cases z))]; exact d1.s, w := upd_same, l := by rw [upd_ne d.ne.symm]; exact d1.l, w0 := fun y hy => d.w0 y (List.mem_cons_of_mem _ hy), tc := by have := d.tc; omega }⟩
end
end
end Fx

set_option Elab.async false
set_option linter.all false
set_option maxRecDepth 100000
set_option maxHeartbeats 4000000
/-! How the draws begin. -/
namespace Fx
open PySem PySem.Spec PyProof.Rows L2 LamX C8
section
variable {T : List (Addr × Str)} {W : Wld T} {G H G1 H1 G2 H2 H0 : Hp} {G0 : Hp × Hp} {c c' k : Nat} {K : PySem.W.Frag}
theorem ETN.imp {tt : TT} {env : Env'} {P P' : Bool → Prop} {k' : Nat} (h : ETN W tt env c k P) (hk : k ≤ k') (hp : ∀ b, P b → P' b) : ETN W tt env c k' P' := fun G0 H0 σ G H A Q q =>
  h G0 H0 σ G H A Q fun b G2 H2 s g j p => q b G2 H2 s g (W.mono (Nat.add_le_add_left hk c) j) (hp b p)
/-- a fresh list by a comprehension of which the items are known in kind -/
theorem mn_lcP {wi : TI} {tt : TT} {te : TE} {env : Env'} {j : Nat} {items : List D} (Pt : D → Bool → Prop) (Pe : D → Prop) (hs : Src W wi env items) (hz : items.length ≤ 100000) (ht : ∀ d ∈ items, ∀ c', ETN W tt (env.set j (.dat d)) c' 0 (Pt d))
    (he : ∀ d ∈ items, Pt d true → ∀ c', EN W te (env.set j (.dat d)) c' 0 Pe) : MN W (tLc wi (gName j) tt te [j]) env c 0 (fun ds => ds.length ≤ items.length ∧ ∀ d ∈ ds, Pe d) := fun G0 H0 σ G H A Q q => by
  refine mn_lc (c := c) (n := items.length) (k0 := 0) (kt := 0) (ke := 0) (fun d => env.set j (.dat d)) (fun _ d b => Pt d b) (fun _ _ e => Pe e) hs.n (fun l h => by rw [h]; exact Nat.le_refl _) hz (fun l h d hd => ?_) (fun l h i d hd c' _ => ?_) (fun l h i d hd c' _ pt => ?_) G0 H0 σ G H A Q fun p xs ds G2 H2 s g j2 hp gp nf m r ⟨l, os, hl, ol, oR, e⟩ => ?_
  · have := tgc_name (W := W) (d := d) (env := wipeE env [j]) (j := j) (vs := [j]) List.mem_cons_self
    rwa [set1] at this
  · subst h
    exact ht d (List.mem_of_getElem? hd) c'
  · subst h
    exact he d (List.mem_of_getElem? hd) pt c'
  · subst hl
    rw [Nat.add_zero, Nat.zero_mul] at j2
    refine q p xs ds G2 H2 s g j2 hp gp nf m r ⟨by rw [e]; exact Nat.le_trans (List.length_filterMap_le _ _) (by omega), fun d hd => ?_⟩
    rw [e] at hd
    obtain ⟨o, ho, ho2⟩ := List.mem_filterMap.mp hd
    have ho2 : o = some d := ho2
    subst ho2
    obtain ⟨i, hi, ei⟩ := List.mem_iff_getElem.mp ho
    have hi2 : i < l.length := by omega
    rcases oR i l[i] (some d) (List.getElem?_eq_getElem hi2) (by rw [List.getElem?_eq_getElem hi, ei]) with ⟨z, _⟩ | ⟨y, z, _, p⟩
    · cases z
    · cases z; exact p
theorem src_scr {a : Addr} {ns : List Int} {Pm : Prop} {env : Env'} {i : Nat} (h : env[i]? = some (.dat (.raw (.ref a)))) : Src (WS T K a ns Pm) (iList K (tVar i)) env (ns.map .int) := fun c G0 H0 σ G H A R q => by
  obtain ⟨v, e, r1⟩ := A.env.dat i _ h
  cases r1
  refine ⟨_, e, a, rfl, ⟨_, ws_sq A.j⟩, q _ G H Stp.refl A.gok A.j ⟨fun i G2 H2 g e2 ⟨c2, j2⟩ hi => ?_, fun i G2 H2 g e2 ⟨c2, j2⟩ hi => ?_, fun i d2 c2 G2 H2 x H' g e2 j hd y => ?_⟩⟩
  · rw [List.length_map] at hi
    exact ⟨_, .int ns[i], ws_sq j2, by rw [List.getElem?_map, List.getElem?_eq_getElem hi]; rfl⟩
  · rw [List.length_map] at hi
    exact ⟨_, ws_sq j2, by rw [List.length_map]; exact hi⟩
  · obtain ⟨rfl, hy⟩ := y
    have := hy _ (ws_sq j)
    rw [List.getElem?_map] at this hd
    cases q2 : ns[i]? with
    | none => rw [q2] at hd; cases hd
    | some z =>
      rw [q2] at this hd
      cases this
      cases hd
      exact ⟨G2, Stp.refl, g, j, .int z⟩
theorem rdl_abs {i : Int} : RDL W (fun xs H Q => ∃ i, xs = [.int i] ∧ Q (.int (if i < 0 then -i else i)) H) [.int i] (.int (i.natAbs : Nat)) := fun c G H vs g j r Q q => by
  cases r with
  | cons r1 r2 =>
  cases r2
  cases r1
  refine ⟨i, rfl, ?_⟩
  have e : (if i < 0 then -i else i) = (i.natAbs : Nat) := by
    split <;> omega
  rw [e]
  exact q.here g j (.int _)
/-- what the draws begin with -/
def SpBegun (W : Wld T) (a : Addr) : Sp := fun vs H Q _ => vs = [.ref a] ∧ ∃ G c, GOk W G H ∧ W.J c H ∧ ∀ S lw lc ws cells G2 H2, Stp W G H G2 H2 → GOk W G2 H2 → W.J c H2 → DrSt W.M S lw lc cells 0 H2 ws 0 0 → (∀ x ∈ cells, 0 ≤ x) → G2 S = none → G2 lw = none → G2 lc = none → Q (.ref S) H2
theorem ints_of (ds : List D) (h : ∀ d ∈ ds, ∃ x : Int, d = .int x ∧ 0 ≤ x) : ∃ ws : List Int, ds = ws.map .int ∧ ∀ x ∈ ws, 0 ≤ x := by
  induction ds with
  | nil => exact ⟨[], rfl, fun _ h => by cases h⟩
  | cons d r ih =>
    obtain ⟨x, rfl, hx⟩ := h d List.mem_cons_self
    obtain ⟨ws, rfl, hw⟩ := ih fun d hd => h d (List.mem_cons_of_mem _ hd)
    exact ⟨x :: ws, rfl, fun y hy => by
      rcases List.mem_cons.mp hy with rfl | hy
      · exact hx
      · exact hw y hy⟩
theorem disp_draw {tc : TE} {env : Env'} {i : Nat} {ws : List Int} (hi : env[i]? = some (.mu (ws.map .int))) (hw : ∀ x ∈ ws, 0 ≤ x) 
    (hc2 : MN W tc env c 0 (fun ds => ∃ cells : List Int, ds = cells.map .int ∧ ∀ x ∈ cells, 0 ≤ x)) {σ : L2.St} (A : At W G0 H0 c G H σ env) (Q : VK)
    (q : ∀ S lw lc cells G2 H2, Stp W G H G2 H2 → GOk W G2 H2 → W.J c H2 → DrSt W.M S lw lc cells 0 H2 ws 0 0 → (∀ x ∈ cells, 0 ≤ x) → G2 S = none → G2 lw = none → G2 lc = none → Q (.ref S) H2) :
    tDisp [(tC (.str "wide"), tVar i), (tC (.str "cells"), tc), (tC (.str "rest"), tC (.int 0)), (tC (.str "turn"), tC (.int 0))] σ H Q := by
  intro p hp
  have nf := nf_none hp
  have gp := A.gok.none hp
  have mp : ¬ W.M p := fun m => W.mtr A.j m nf
  have s1 : Stp W G H G (upd H p (.dK [])) := stp_upd Stp.refl nf (noTb_dK _)
  have A1 := A.step s1 (gok_upd A.gok gp) (J_new (o := .dK []) A.j hp)
  obtain ⟨lw, xs, e, hl, gl, r, m, _⟩ := A1.env.mu i _ hi
  have exs := RpL.ints r
  subst exs
  refine ⟨_, e, ?_⟩
  refine hc2 _ _ σ _ _ A1 _ fun lc xs ds G2 H2 s2 g2 j2 hlc glc nlc mlc r2 ⟨cells, ed, hcells⟩ => ?_
  subst ed
  have exs := RpL.ints r2
  subst exs
  have d2 := s2.hh p _ upd_same mp (noTb_dK _)
  have n2 := s2.gone gp upd_same (noTb_dK _)
  have l2 := s2.hh lw _ hl m (noTb_lst _)
  have nl2 := s2.gone gl hl (noTb_lst _)
  have neL : lw ≠ lc := fun z => nf_no hl (noTb_lst _) (z ▸ nlc)
  have neP : lw ≠ p := ne_of l2 d2 (by intro z; cases z)
  have neC : lc ≠ p := ne_of hlc d2 (by intro z; cases z)
  refine ⟨d2, [(.inr "wide", .ref lw), (.inr "cells", .ref lc), (.inr "rest", .int 0), (.inr "turn", .int 0)], rfl, by simp, ?_⟩
  have em : mergeK [] [((.inr "wide" : Key), V.ref lw), (.inr "cells", .ref lc), (.inr "rest", .int 0), (.inr "turn", .int 0)] = stD lw lc 0 0 := rfl
  rw [em]
  refine q p lw lc cells G2 (upd H2 p (.dK (stD lw lc 0 0))) (stp_upd (s1.trans s2) nf (noTb_dK _)) (gok_upd g2 n2) (W.upddk (by simpa using j2) mp d2) ⟨upd_same, by rw [upd_ne neP]; exact l2, by rw [upd_ne neC]; exact hlc, hw, by omega, by omega, by omega, neL, mp, m⟩ hcells n2 nl2 glc
/-- a def that may draw, at most k times, whatever the draws' dict -/
def SpSx (T : List (Addr × Str)) (k : Nat) (f : Addr → List D → (D → Prop) → Prop) : Sp := fun vs H Q E => ∃ (W : Wld T) (S lw lc : Addr) (cells : List Int), SpS (WDr W S lw lc cells) k (f S) vs H Q E
theorem en_callX {S lw lc : Addr} {cells : List Int} {f : Addr → List D → (D → Prop) → Prop} {E : XK} {ta : TA} {env : Env'} {n : Nat} {Pa : List D → Prop} {P : D → Prop} (h : EAN (WDr W S lw lc cells) ta env c n Pa) (hf : ∀ ds, Pa ds → f S ds P) (hc : c + n + k ≤ CAP) : EN (WDr W S lw lc cells) (tCall (SpSx T k f) [] E ta) env c (n + k) P := fun G0 H0 σ G H A Q q =>
  h G0 H0 σ G H A _ fun vs ds G1 H1 s1 g1 j1 r1 p => by
    rw [List.append_nil]
    exact ⟨W, S, lw, lc, cells, G1, c + n, ds, P, g1, j1, hc, r1, hf ds p, fun v d G2 H2 s g t r pd => q v d G2 H2 (s1.trans s) g (by rw [← Nat.add_assoc]; exact t) r pd⟩
theorem calSx {P : Program} {w : World} {mg : Str → Option Value} {base : Heap} {x : Str} {st : Stmt} {N ps : List Str} {k m : Nat} {cdv : Value} {f : Addr → List D → (D → Prop) → Prop} (F : Df K mg x st ps cdv) (Sc : scC N ps (fnScope st) = true) (len : ∀ S ds d, f S ds d → ds.length = ps.length)
    (hbody : ∀ (a : Addr) (A : Around) (outer : List Env) (s : Shared) (H : Hp) (E : XK), Room k (A.deeper (envOfC x (fnScope st) s.heap.objs.size a cdv)) →
      ∃ t, PSs (cxOf C8.CX0 P w K mg base N x (fnScope st) a cdv A outer s H E).nox (fnBody st) t ∧ ∀ (W : Wld T) (S lw lc : Addr) (cells : List Int) ds P c, f S ds P → c + m ≤ CAP → Tr (WDr W S lw lc cells) t (env0 ds (N.length - ds.length)) c ⟨fun _ c2 => P .non ∧ c2 ≤ c + m, fun r c2 => P r ∧ c2 ≤ c + m, fun _ _ => False, fun _ _ => False⟩) : Cal P w K mg base (k + 1) x (SpSx T m f) [] := by
  have hn : ps.length ≤ N.length := by
    have := (fnScope_by Sc).pre
    rw [← this, List.length_take]
    omega
  refine cal_of F Sc (fun vs H Q E h => ?_) fun a A outer s H vs Q E hr h => ?_
  · obtain ⟨W, S, lw, lc, cells, G, c, ds, d, _, _, _, r, hf, _⟩ := h
    rw [r.len, len S ds d hf]
  · obtain ⟨t, ht, q⟩ := hbody a A outer s H E hr
    obtain ⟨W, S, lw, lc, cells, h⟩ := h
    refine ⟨t, ht, body_S h ?_ fun ds P c => q W S lw lc cells ds P c⟩
    obtain ⟨G, c, ds, d, _, _, _, r, hf, _⟩ := h
    rw [r.len, len S ds d hf]
    exact hn
/-- what the draws begin with, whatever the script -/
def SpBegunX (T : List (Addr × Str)) (K : PySem.W.Frag) : Sp := fun vs H Q E => ∃ (a : Addr) (ns : List Int) (Pm : Prop), ns.length ≤ 1000 ∧ SpBegun (WS T K a ns Pm) a vs H Q E
theorem fn_raw {P : Program} {w : World} {mg : Str → Option Value} {base : Heap} {x : Str} {st : Stmt} {N ps : List Str} {k : Nat} {sp : Sp} {f : Addr} {fd : FuncData} (F : FunD K x x (fnArgs st) (fnBody st) (fnScope st) [] [] f fd) (S : scC N ps (fnScope st) = true) (len : ∀ vs H Q E, sp vs H Q E → vs.length = ps.length)
    (hbody : ∀ (cdv : Value) (a : Addr) (A : Around) (outer : List Env) (s : Shared) (H : Hp) (E : XK), Room k (A.deeper (envOfC x (fnScope st) s.heap.objs.size a cdv)) →
      ∃ t, PSs (cxOf C8.CX0 P w K mg base N x (fnScope st) a cdv A outer s H E).nox (fnBody st) t ∧ ∀ vs Q, sp vs H Q E → t { nx := fun _ H' => Q .non H', rt := Q } (L2.start N vs) H) : FnOk P w K mg base C8.CX0 (k + 1) f fd ps sp :=
  F.ok (fnScope_by S) len fun cdv A outer s H vs Q E hr h => let ⟨t, ht, q⟩ := hbody cdv f A outer s H E hr; ⟨t, ht.nox, q vs Q h⟩
theorem df_of {mg : Str → Option Value} {x : Str} {st : Stmt} {ps : List Str} {f : Addr} {fd : FuncData} (F : FunD K x x (fnArgs st) (fnBody st) (fnScope st) [] [] f fd) (hm : mg x = some (.ref f)) (hb : ∀ (kV doc pm : Value) (an : Option Addr) (cdv ct : Value) (us : List Value), us.length = ps.length → bindArgs (PySem.W.fnOf x x (fnArgs st) (fnBody st) (fnScope st) .none kV doc pm an cdv ct) ⟨us, []⟩ = pure (ps.zip us)) : Df K mg x st ps fd.code := by
  obtain ⟨oc, od, dV, kV, doc, pm, an, cdv, ct, osl, rfl, lk, hcd, hd, hk⟩ := F.ex
  have e : dV = .none := by
    rcases hd with ⟨_, e⟩ | ⟨n, _⟩
    · exact e
    · exact absurd rfl n
  subst e
  exact ⟨f, oc, od, kV, doc, pm, an, ct, osl, lk, hcd, hm, F.kp, .all fun us hl => hb kV doc pm an cdv ct us hl⟩
/-- a def with a table of its own -/
theorem df_tab {mg : Str → Option Value} {x : Str} {st : Stmt} {ps : List Str} {fd : FuncData} (F : FunD K x x (fnArgs st) (fnBody st) (fnScope st) [] [] (He.fAd K (x, none)) fd) (hm : mg x = some (.ref (He.fAd K (x, none)))) (hb : ∀ (kV doc pm : Value) (an : Option Addr) (cdv ct : Value) (us : List Value), us.length = ps.length → bindArgs (PySem.W.fnOf x x (fnArgs st) (fnBody st) (fnScope st) .none kV doc pm an cdv ct) ⟨us, []⟩ = pure (ps.zip us)) : Df K mg x st ps (.ref (He.cT K (x, none)).1) := by
  have h := df_of F hm hb
  obtain ⟨oc, od, dV, kV, doc, pm, an, cdv, ct, osl, rfl, lk, hcd, hd, hk⟩ := F.ex
  obtain ⟨c, ec⟩ := He.codeIn_ref hcd
  have e : He.codeOf K (x, none) = c := He.codeOf_eq lk (by exact ec)
  have e2 : (He.cT K (x, none)).1 = c := e
  rw [e2, ← ec]
  exact h
theorem seq_asg {te : TE} {i : Nat} {u : TS} {E : Ends} {σ : L2.St} {H : Hp} (h : te σ H fun v H' => u E (σ.set i (some v)) H') : tSeq (tAsg te (gName i)) u E σ H := h
theorem ret_raw {te : TE} {E : Ends} {σ : L2.St} {H : Hp} (h : te σ H E.rt) : tRet te E σ H := h
/-- a def by its reading -/
theorem cal_raw {P : Program} {w : World} {mg : Str → Option Value} {base : Heap} {x : Str} {st : Stmt} {N ps : List Str} {k : Nat} {sp : Sp} {cdv : Value} (F : Df K mg x st ps cdv) (S : scC N ps (fnScope st) = true) (len : ∀ vs H Q E, sp vs H Q E → vs.length = ps.length)
    (hbody : ∀ (a : Addr) (A : Around) (outer : List Env) (s : Shared) (H : Hp) (E : XK), Room k (A.deeper (envOfC x (fnScope st) s.heap.objs.size a cdv)) →
      ∃ t, PSs (cxOf C8.CX0 P w K mg base N x (fnScope st) a cdv A outer s H E).nox (fnBody st) t ∧ ∀ vs Q, sp vs H Q E → t { nx := fun _ H' => Q .non H', rt := Q } (L2.start N vs) H) : Cal P w K mg base (k + 1) x sp [] :=
  cal_of F S len fun f A outer s H vs Q E hr h => let ⟨t, ht, q⟩ := hbody f A outer s H E hr; ⟨t, ht, q vs Q h⟩
end
end Fx

set_option Elab.async false
set_option linter.all false
set_option maxRecDepth 100000
set_option maxHeartbeats 4000000
/-! sorted(set(t)) of ints; fresh lists; draws in short. -/
namespace Fx
open PySem PySem.Spec PyProof.Rows L2 LamX C8
section
variable {X : Cx}
/-- set(t), a tuple of ints -/
def rSetTup (K : PySem.W.Frag) (w : World) : List V → Hp → VK → Prop := fun xs H Q => ∃ (p : Addr) (ns : List Int), xs = [.ref p] ∧ SqT K H p (ns.map V.int) ∧ ns.length ≤ 1000 ∧ ∀ (q : Addr) (c : Nat), H q = none → c ≤ ns.length → Q (.ref q) (upd H q (SetO w q (fun j => decide (j ∈ ns)) c))
theorem cr_setTup (K : PySem.W.Frag) (w : World) (hc : X.calm = true) (h : X.K = K := by rfl) (hw : X.w = w := by rfl) : CallR X (.type "set") (rSetTup K w) := by
  subst h hw
  intro pins s σ H xs us Q I r h
  obtain ⟨p, ns, rfl, hq, hl, q⟩ := h
  obtain rfl := Vals.ref1 r
  obtain ⟨its, rv, pt, hz⟩ := I.tuple hq
  have hi : IntsAre its.toArray.toList ns := ints_of_vals rv
  refine call_set_tupI ns (I.ok.hd hc) (show s.heap.IsTuple p its.toArray from pt) hi (by unfold scanBound; omega) fun h' tk c R hcn k => ?_
  have hn := I.hok.fresh (Nat.le_refl s.heap.objs.size)
  exact ⟨.ref _, _, I.laid (t' := tk) k (Nat.le_refl _) (setO_new R), rfl, q _ c hn hcn⟩
theorem ksortSet (w : World) (hc : X.calm = true) (hw : X.w = w := by rfl) : CallR X (.builtin "sorted") (rSortedSet w) := by subst hw; exact cr_sortedSet hc
end
section
variable {T : List (Addr × Str)} {W : Wld T} {G H G1 H1 G2 H2 H0 : Hp} {G0 : Hp × Hp} {c c' k : Nat} {K : PySem.W.Frag}
theorem noTb_set {w : World} {a : Addr} {S : Int → Bool} {n : Nat} : NoTb (SetO w a S n) := fun _ z => by unfold SetO at z; cases z
/-- sorted(set(t)) -/
theorem en_sortedSet {w : World} {te : TE} {env : Env'} {n : Nat} {P : List Int → Prop} (h : EN W te env c n (fun d => ∃ ns, d = dI ns ∧ P ns)) (hz : ∀ ns, P ns → ns.length < 64) :
    EN W (tCB (rSortedSet w) (tCons (tCB (rSetTup K w) (tCons te tNil)) tNil)) env c n (fun d => ∃ ns ms : List Int, P ns ∧ d = dLI ms ∧ ms.Pairwise (· < ·) ∧ ∀ k, k ∈ ms ↔ k ∈ ns) := fun G0 H0 σ G H A Q q =>
  h G0 H0 σ G H A _ fun v d G1 H1 s1 g1 j1 r1 ⟨ns, e, p⟩ => by
    subst e
    cases r1 with
    | tup ha rl =>
    have hx := RpL.ints rl
    subst hx
    have hz := hz ns p
    refine ⟨_, ns, rfl, sqT_of g1 ha, by omega, fun q1 c1 hq hc1 => ?_⟩
    refine ⟨q1, _, c1, rfl, upd_same, by omega, fun ms p2 hp hm hl hn => ?_⟩
    have nf := nf_none hq
    have s2 : Stp W G1 H1 G1 (upd H1 q1 (SetO w q1 (fun j => decide (j ∈ ns)) c1)) := stp_upd Stp.refl nf noTb_set
    have g2 := gok_upd (o := SetO w q1 (fun j => decide (j ∈ ns)) c1) g1 (g1.none hq)
    have j2 := J_new (o := SetO w q1 (fun j => decide (j ∈ ns)) c1) j1 hq
    exact q (.ref p2) (dLI ms) _ _ ((s1.trans s2).trans (stp_new g2 hn)) (gok_new g2 j2 hn (noTb_lst _)) (J_new j2 hn) (.lst upd_same ((RpL.of_ints ms))) ⟨ns, ms, p, rfl, hp, fun k => by rw [hm k]; simp⟩
/-- an item of a list that changes -/
theorem ed_ixMu {ti : TE} {env : Env'} {i j : Nat} {ds : List D} {d : D} (he : env[i]? = some (.mu ds)) (h : ED W ti env (.int (j : Nat))) (hd : ds[j]? = some d) : ED W (tOp (rIx K) (tVar i) ti) env d := fun c G0 H0 σ G H A Q q => by
  obtain ⟨l, xs, e, hl, gl, r, m, _⟩ := A.env.mu i ds he
  refine ⟨_, e, ?_⟩
  refine h c G0 H0 σ G H A _ fun v G1 H1 s1 g1 j1 r1 => ?_
  cases r1
  have h1 := s1.hh l _ hl m (noTb_lst _)
  obtain ⟨v, e1, r2⟩ := r.get hd
  exact .inl ⟨_, _, _, v, rfl, rfl, SqL.of h1, atI_nat e1, q v G1 H1 s1 g1 j1 (r2.mono s1.gg)⟩
/-- list(x): a fresh one -/
theorem mn_list {te : TE} {env : Env'} {ds : List D} (h : ED W te env (.lst ds) ∨ ED W te env (.tup ds)) : MN W (tCB (fun xs H Q => ∃ p ys, xs = [.ref p] ∧ (SqL K H p ys ∨ SqT K H p ys) ∧ ∀ l, H l = none → Q (.ref l) (upd H l (.lst ys))) (tCons te tNil)) env c 0 (fun es => es = ds) := fun G0 H0 σ G H A Q q => by
  have fin : ∀ (p : Addr) (ys : List V) (G1 H1 : Hp), Stp W G H G1 H1 → GOk W G1 H1 → W.J c H1 → (SqL K H1 p ys ∨ SqT K H1 p ys) → RpL G1 ys ds → ∃ p' ys', [V.ref p] = [.ref p'] ∧ (SqL K H1 p' ys' ∨ SqT K H1 p' ys') ∧ ∀ l, H1 l = none → Q (.ref l) (upd H1 l (.lst ys')) := fun p ys G1 H1 s1 g1 j1 hq rl =>
    ⟨p, ys, rfl, hq, fun l hl => q l ys ds G1 (upd H1 l (.lst ys)) (s1.trans (stp_upd Stp.refl (nf_none hl) (noTb_lst _))) (gok_upd g1 (g1.none hl)) (J_new j1 hl) upd_same (g1.none hl) (s1.dom l (nf_none hl)) (fun m => W.mtr j1 m (nf_none hl)) rl rfl⟩
  rcases h with h | h
  · refine h c G0 H0 σ G H A _ fun v G1 H1 s1 g1 j1 r1 => ?_
    cases r1 with
    | lst ha rl => exact fin _ _ G1 H1 s1 g1 j1 (.inl (sqL_of g1 ha)) rl
  · refine h c G0 H0 σ G H A _ fun v G1 H1 s1 g1 j1 r1 => ?_
    cases r1 with
    | tup ha rl => exact fin _ _ G1 H1 s1 g1 j1 (.inr (sqT_of g1 ha)) rl
theorem en_if {t : TT} {ta tb : TE} {env : Env'} {k1 k2 : Nat} {Pb : Bool → Prop} {P : D → Prop} (h : ETN W t env c k1 Pb) (h1 : Pb true → EN W ta env (c + k1) k2 P) (h2 : Pb false → EN W tb env (c + k1) k2 P) : EN W (tIf t ta tb) env c (k1 + k2) P := fun G0 H0 σ G H A Q q =>
  h G0 H0 σ G H A _ fun b G1 H1 s1 g1 j1 p => by
    cases b with
    | true => exact h1 p G0 H0 σ G1 H1 (A.step s1 g1 j1) Q fun v d G2 H2 s2 g2 j2 r2 => q v d G2 H2 (s1.trans s2) g2 (by rw [← Nat.add_assoc]; exact j2) r2
    | false => exact h2 p G0 H0 σ G1 H1 (A.step s1 g1 j1) Q fun v d G2 H2 s2 g2 j2 r2 => q v d G2 H2 (s1.trans s2) g2 (by rw [← Nat.add_assoc]; exact j2) r2
theorem etn_or {t u : TT} {env : Env'} {k1 k2 : Nat} {P1 P : Bool → Prop} (h : ETN W t env c k1 P1) (h1 : P1 true → P true) (h2 : P1 false → ETN W u env (c + k1) k2 P) : ETN W (tOr t u) env c (k1 + k2) P := fun G0 H0 σ G H A Q q =>
  h G0 H0 σ G H A _ fun b G1 H1 s1 g1 j1 p => by
    cases b with
    | true => exact q true G1 H1 s1 g1 (W.mono (by omega) j1) (h1 p)
    | false => exact h2 p G0 H0 σ G1 H1 (A.step s1 g1 j1) Q fun b2 G2 H2 s2 g2 j2 p2 => q b2 G2 H2 (s1.trans s2) g2 (by rw [← Nat.add_assoc]; exact j2) p2
theorem EN.lift {te : TE} {env : Env'} {P : D → Prop} {k' : Nat} (h : EN W te env c k P) (hk : k ≤ k') : EN W te env c k' P := h.imp hk fun _ h => h
/-- [x for x in ints if ..], whatever the test says -/
theorem en_pick {wi : TI} {tt : TT} {env : Env'} {j kt : Nat} {xs : List Int} {te : TE} (hs : Src W wi env (xs.map .int)) (hz : xs.length ≤ 1000) (hj : j < env.length) (ht : ∀ x ∈ xs, ∀ c', c' + kt ≤ c + kt * xs.length → ETN W tt (env.set j (.dat (.int x))) c' kt (fun _ => True)) (e : te = tVar j) :
    EN W (tLc wi (gName j) tt te [j]) env c (kt * xs.length) (fun d => ∃ l : List Int, l.Sublist xs ∧ d = dLI l) := by
  subst e
  refine EN.imp (en_lc (c := c) (n := xs.length) (k0 := 0) (kt := kt) (ke := 0) (fun d => env.set j (.dat d)) (fun _ _ _ => True) (fun i _ y => ∃ x, xs[i]? = some x ∧ y = .int x) hs.n (fun l h => by rw [h]; simp) (by omega) (fun l h d hd => ?_) (fun l h i d hd c' hc => ?_) fun l h i d hd c' hc pt => ?_) (by simp) fun d h => ?_
  · have := tgc_name (W := W) (d := d) (env := wipeE env [j]) (j := j) (vs := [j]) List.mem_cons_self
    rwa [set1] at this
  · subst h
    obtain ⟨x, hx, rfl⟩ := List.mem_map.mp (List.mem_of_getElem? hd)
    exact ht x hx c' (by simpa using hc)
  · subst h
    rw [List.getElem?_map] at hd
    cases q : xs[i]? with
    | none => rw [q] at hd; cases hd
    | some x =>
      rw [q] at hd
      cases hd
      exact (ed_var (d := .int x) (List.getElem?_set_self hj)).n.imp (Nat.le_refl _) fun d e => ⟨x, rfl, e⟩
  · obtain ⟨l, os, rfl, ol, oR, rfl⟩ := h
    rw [List.length_map] at ol
    have key : ∀ (xs : List Int) (os : List (Option D)), os.length = xs.length → (∀ (i : Nat) (o : Option D), os[i]? = some o → o = none ∨ ∃ x, xs[i]? = some x ∧ o = some (.int x)) → ∃ l : List Int, l.Sublist xs ∧ os.filterMap id = l.map .int := by
      intro xs
      induction xs with
      | nil =>
        intro os h _
        cases os with
        | nil => exact ⟨[], .slnil, rfl⟩
        | cons o r => cases h
      | cons x r ih =>
        intro os h hp
        cases os with
        | nil => cases h
        | cons o ro =>
          obtain ⟨l, hl, el⟩ := ih ro (by simpa using h) fun i o ho => hp (i + 1) o ho
          rcases hp 0 o rfl with rfl | ⟨y, hy, rfl⟩
          · exact ⟨l, .cons _ hl, by rw [List.filterMap_cons]; exact el⟩
          · cases hy
            exact ⟨x :: l, .cons₂ _ hl, by rw [List.filterMap_cons]; show D.int x :: List.filterMap id ro = _; rw [el]; rfl⟩
    obtain ⟨l, hl, el⟩ := key xs os ol fun i o ho => by
      have hi : i < xs.length := by rw [← ol]; exact (List.getElem?_eq_some_iff.mp ho).1
      rcases oR i (.int xs[i]) o (by rw [List.getElem?_map, List.getElem?_eq_getElem hi]; rfl) ho with ⟨e, _⟩ | ⟨y, e, _, x, hx, ey⟩
      · exact .inl e
      · exact .inr ⟨x, hx, by rw [e, ey]⟩
    exact ⟨l, hl, congrArg D.lst el⟩
end
end Fx
namespace Fx
open PySem PySem.Spec PyProof.Rows L2 LamX C8
theorem tg_tup3 {T : List (Addr × Str)} {W : Wld T} {K : PySem.W.Frag} {d1 d2 d3 : D} {env : Env'} {i j m : Nat} : TgOk W (gTup K 3 (gCons (gName i) (gCons (gName j) (gCons (gName m) gNil)))) (.tup [d1, d2, d3]) env (((env.set i (.dat d1)).set j (.dat d2)).set m (.dat d3)) := fun c G0 H0 σ G H v A r Q q => by
  cases r with
  | tup h r =>
    cases r with
    | cons r1 r2 =>
    cases r2 with
    | cons r2 r3 =>
    cases r3 with
    | cons r3 r4 =>
    cases r4
    exact ⟨_, _, rfl, sqT_of A.gok h, rfl, _, _, rfl, _, _, rfl, _, _, rfl, rfl, q _ (((A.setD i r1).setD j r2).setD m r3)⟩
theorem EAN.imp1 {T : List (Addr × Str)} {W : Wld T} {c k : Nat} {ta : TA} {env : Env'} {P P' : List D → Prop} {k' : Nat} (h : EAN W ta env c k P) (hp : ∀ d, P d → P' d) (hk : k ≤ k' := by first | exact Nat.le_refl _ | decide | omega) : EAN W ta env c k' P' := fun G0 H0 σ G H A Q q =>
  h G0 H0 σ G H A Q fun v d G2 H2 s g j r p => q v d G2 H2 s g (W.mono (Nat.add_le_add_left hk c) j) r (hp d p)
end Fx
namespace Fx
open PySem PySem.Spec PyProof.Rows L2 LamX C8
section
variable {T : List (Addr × Str)} {W : Wld T} {c k : Nat}
/-- [e for x in items], e drawn -/
theorem en_mapN {wi : TI} {te : TE} {env : Env'} {j k0 ke n : Nat} {P0 : List D → Prop} {Pe : D → Prop} (hs : SrcN W wi env c k0 P0) (hn : ∀ l, P0 l → l.length ≤ n) (hz : n ≤ 100000)
    (he : ∀ l, P0 l → ∀ d ∈ l, ∀ c', c' + ke ≤ c + (k0 + ke * n) → EN W te (env.set j (.dat d)) c' ke Pe) : EN W (tLc wi (gName j) tYes te [j]) env c (k0 + ke * n) (fun d => ∃ l ds : List D, P0 l ∧ d = .lst ds ∧ ds.length = l.length ∧ ∀ x ∈ ds, Pe x) := by
  refine EN.imp (en_lc (c := c) (n := n) (k0 := k0) (kt := 0) (ke := ke) (fun d => env.set j (.dat d)) (fun _ _ b => b = true) (fun _ _ e => Pe e) hs hn hz (fun l h d hd => ?_) (fun l h i d hd c' _ => ?_) (fun l h i d hd c' hc _ => ?_)) (by simp) fun d h => ?_
  · have := tgc_name (W := W) (d := d) (env := wipeE env [j]) (j := j) (vs := [j]) List.mem_cons_self
    rwa [set1] at this
  · exact et_yes.n
  · exact he l h d (List.mem_of_getElem? hd) c' (by simpa using hc)
  · obtain ⟨l, os, h0, ol, oR, rfl⟩ := h
    have key : ∀ (l : List D) (os : List (Option D)), os.length = l.length → (∀ (i : Nat) (o : Option D), os[i]? = some o → ∃ y, o = some y ∧ Pe y) → (os.filterMap id).length = l.length ∧ ∀ x ∈ os.filterMap id, Pe x := by
      intro l
      induction l with
      | nil =>
        intro os h _
        cases os with
        | nil => exact ⟨rfl, fun x h => by cases h⟩
        | cons o r => cases h
      | cons x r ih =>
        intro os h hp
        cases os with
        | nil => cases h
        | cons o ro =>
          obtain ⟨h1, h2⟩ := ih ro (by simpa using h) fun i o ho => hp (i + 1) o ho
          obtain ⟨y, rfl, py⟩ := hp 0 o rfl
          rw [List.filterMap_cons]
          show (y :: List.filterMap id ro).length = _ ∧ ∀ x ∈ y :: List.filterMap id ro, Pe x
          refine ⟨by rw [List.length_cons, List.length_cons, h1], fun x hx => ?_⟩
          rcases List.mem_cons.mp hx with rfl | hx
          · exact py
          · exact h2 x hx
    obtain ⟨h1, h2⟩ := key l os ol fun i o ho => by
      have hi : i < l.length := by rw [← ol]; exact (List.getElem?_eq_some_iff.mp ho).1
      rcases oR i l[i] o (List.getElem?_eq_getElem hi) ho with ⟨_, z⟩ | ⟨y, e, _, p⟩
      · cases z
      · exact ⟨y, e, p⟩
    exact ⟨l, _, h0, rfl, h1, h2⟩
theorem eqv_str {a b : Str} : D.eqv (.str a) (.str b) = PyData.eqv (.str a) (.str b) := rfl
end
end Fx
namespace Fx
open PySem PySem.Spec PyProof.Rows L2 LamX C8
theorem tab_uniq {T : List (Addr × Str)} (h : (T.map (·.1)).Nodup) : ∀ p ∈ T, ∀ q ∈ T, p.1 = q.1 → p.2 = q.2 := by
  induction T with
  | nil => intro p hp; cases hp
  | cons x r ih =>
    rw [List.map_cons, List.nodup_cons] at h
    intro p hp q hq e
    rcases List.mem_cons.mp hp with e1 | hp'
    · rcases List.mem_cons.mp hq with e2 | hq'
      · rw [e1, e2]
      · exact absurd (List.mem_map.mpr ⟨q, hq', by rw [← e, e1]⟩) h.1
    · rcases List.mem_cons.mp hq with e2 | hq'
      · exact absurd (List.mem_map.mpr ⟨p, hp', by rw [e, e2]⟩) h.1
      · exact ih h.2 p hp' q hq' e
theorem tabs_start {T : List (Addr × Str)} {H : Hp} (h : ∀ p ∈ T, H p.1 = some (.tbl #[])) : Tabs T H := fun p hp => ⟨#[], h p hp, (by simp [PySem.TriplesOk]), fun pos cv z => by cases z⟩
end Fx

set_option Elab.async false
set_option linter.all false
set_option maxRecDepth 100000
set_option maxHeartbeats 4000000
/-! The package's defs: what they make of lots. -/
namespace K43
open PySem PySem.Spec PyProof.Rows L2 LamX C8 Fx
def top (i : Nat) : Stmt := PySem.Challenge.pw_lanesmeet_k43_whole_stretches_and_arcs.main.body.getD i (.Pass ⟨0, 0, 0, 0⟩)
structure Bn (mg : Str → Option Value) : Prop where
  isinstance : mg "isinstance" = none
  int : mg "int" = none
  bool : mg "bool" = none
  str : mg "str" = none
  dict : mg "dict" = none
  list : mg "list" = none
  tuple : mg "tuple" = none
  set : mg "set" = none
  all : mg "all" = none
  any : mg "any" = none
  zip : mg "zip" = none
  enumerate : mg "enumerate" = none
  range : mg "range" = none
  len : mg "len" = none
  min : mg "min" = none
  max : mg "max" = none
  abs : mg "abs" = none
  sorted : mg "sorted" = none
  cMOST_GAPS : ∃ t, mg "MOST_GAPS" = some (.int 16 t)
  cMOST_LOTS : ∃ t, mg "MOST_LOTS" = some (.int 400 t)
  cEND : ∃ t, mg "END" = some (.str "end" t)
  cPART : ∃ t, mg "PART" = some (.str "part" t)
section
variable {P : Program} {w : World} {K : PySem.W.Frag} {mg : Str → Option Value} {base : Heap} {T : List (Addr × Str)} {cdv : Value} {c0 P0 : Addr}
def fIsNumber : List D → D → Prop := fun ds d => ∃ i, ds = [.int i] ∧ d = .bl true
theorem nd_is_number : (["value"] : List PySem.Str).Nodup := by decide +kernel
theorem ok_is_number (F : Df K mg "is_number" (top 6) ["value"] cdv) (B : Bn mg) : Cal P w K mg base (0 + 1) "is_number" (SpD T fIsNumber) [] := by
  have nd := nd_is_number
  refine calD (N := ["value"]) F (by decide +kernel) ?len (fun a A outer s H E hr => ⟨_, (pss_one (ps_ret (pe_and (pe_callB (kisi K) rfl (by exact B.isinstance) (by decide +kernel) (pa_cons (pv 0) (pa_cons (pe_bltn (v := .ty "int") rfl (by exact B.int) (by decide +kernel) rfl) pa_nil))) (pe_one (pe_not (pe_callB (kisi K) rfl (by exact B.isinstance) (by decide +kernel) (pa_cons (pv 0) (pa_cons (pe_bltn (v := .ty "bool") rfl (by exact B.bool) (by decide +kernel) rfl) pa_nil)))))))), ?rd⟩)
  case len => rintro ds d ⟨i, rfl, rfl⟩; rfl
  case rd =>
    rintro ds d ⟨i, rfl, rfl⟩
    refine tr_ret (ed_andV (b := true) (a := true) (ed_CB (ea_cons (ed_var rfl) (ea_cons ed_raw ea_nil)) (rdl_isi (.int i) (kit_ty (by decide +kernel)))) fun _ => ?_) rfl
    exact ed_notV (a := false) (ed_CB (ea_cons (ed_var rfl) (ea_cons ed_raw ea_nil)) (rdl_isi (.int i) (kit_ty (by decide +kernel))))
def fIsList : List D → D → Prop := fun ds d => ∃ l, ds = [.lst l] ∧ d = .bl true
theorem nd_is_list : (["value"] : List PySem.Str).Nodup := by decide +kernel
theorem ok_is_list (F : Df K mg "is_list" (top 7) ["value"] cdv) (B : Bn mg) : Cal P w K mg base (0 + 1) "is_list" (SpD T fIsList) [] := by
  have nd := nd_is_list
  refine calD (N := ["value"]) F (by decide +kernel) ?len (fun a A outer s H E hr => ⟨_, (pss_one (ps_ret (pe_callB (kisiT K) rfl (by exact B.isinstance) (by decide +kernel) (pa_cons (pv 0) (pa_cons (pe_tup (pa_cons (pe_bltn (v := .ty "list") rfl (by exact B.list) (by decide +kernel) rfl) (pa_cons (pe_bltn (v := .ty "tuple") rfl (by exact B.tuple) (by decide +kernel) rfl) pa_nil))) pa_nil))))), ?rd⟩)
  case len => rintro ds d ⟨i, rfl, rfl⟩; rfl
  case rd =>
    rintro ds d ⟨l, rfl, rfl⟩
    refine tr_ret (ed_CB (ea_cons (ed_var rfl) (ea_cons (ed_tup (ea_cons ed_raw (ea_cons ed_raw ea_nil)) (by decide)) ea_nil)) (rdl_isiT (.lst l) (Cs := ["list", "tuple"]) (kitAny_cons (b := true) (kit_ty (by decide +kernel)) (fun z => by cases z) (fun _ => rfl)))) rfl
theorem cutD_tail (xs : List D) : Fx.cutD xs (some 1) none = xs.drop 1 := by
  have e : HT.sIx xs.length 0 (some 1) = min 1 xs.length := HT.sIx_nat _ _ 1
  unfold Fx.cutD
  rw [HT.sIx_none, e, List.take_of_length_le (by rw [List.length_drop]; omega)]
  cases xs with
  | nil => rfl
  | cons x r => rw [show min 1 (x :: r).length = 1 from by simp]
/-- a lot of gaps below many -/
def okLot (many : Int) (l : List Int) : Bool := l.all (fun g => decide (0 ≤ g) && decide (g < many)) && (l.zip (l.drop 1)).all fun p => decide (p.1 < p.2)
def fIsLot : List D → D → Prop := fun ds d => ∃ many l, ds = [.int many, dI l] ∧ l.length ≤ 10000 ∧ d = .bl (okLot many l)
theorem nd_is_lot : (["many", "thing", "gap", "later"] : List PySem.Str).Nodup := by decide +kernel
theorem ok_is_lot (F : Df K mg "is_lot" (top 13) ["many", "thing"] cdv) (B : Bn mg) (c_is_number : Cal P w K mg base 1 "is_number" (SpD T fIsNumber) []) : Cal P w K mg base (1 + 1) "is_lot" (SpD T fIsLot) [] := by
  have nd := nd_is_lot
  refine calD (N := ["many", "thing", "gap", "later"]) F (by decide +kernel) ?len (fun a A outer s H E hr => ⟨_, (pss_cons (ps_if (PW.pt (pw_or (pt_not (pt_val (pe_callB (kisi K) rfl (by exact B.isinstance) (by decide +kernel) (pa_cons (pv 1) (pa_cons (pe_bltn (v := .ty "tuple") rfl (by exact B.tuple) (by decide +kernel) rfl) pa_nil))))) (pw_or1 (pt_not (pt_val (pe_callB (kall K rfl) rfl (by exact B.all) (by decide +kernel) (pa_cons (pe_lc rfl nd (kpi_tup K (pv 1)) (blkOk_by (own := [("gap", 2)]) (by rfl)) (fun _ _ _ _ _ => (pg_name (i := 2) nd rfl (Or.inl rfl))) (fun _ _ _ _ _ => pts_nil) (fun _ _ _ _ _ => (pe_and (pe_c c_is_number hr (by omega) rfl (pa_cons (pv 2) pa_nil)) (pe_one (pe_chain op_le op_lt pe_int (pv 2) (pv 0)))))) pa_nil))))))) (pss_one (ps_ret pe_bl)) pss_nil)
    (pss_one (ps_ret (pe_callB (kall K rfl) rfl (by exact B.all) (by decide +kernel) (pa_cons (pe_lc (g := gTup K 2 (gCons (gName 2) (gCons (gName 3) gNil))) rfl nd (kpi_zip K rfl (by exact B.zip) (pa_cons (pv 1) (pa_cons (pe_slice (kslA K) (pv 1) (po_some pe_int) po_none) pa_nil))) (blkOk_by (own := [("gap", 2), ("later", 3)]) (by rfl)) (fun _ _ _ _ _ => (by exact pg_tup rfl (pgs_cons (pg_name (i := 2) nd rfl (Or.inl rfl)) (pgs_cons (pg_name (i := 3) nd rfl (Or.inl rfl)) pgs_nil)))) (fun _ _ _ _ _ => pts_nil) (fun _ _ _ _ _ => (pe_cmpR op_lt (pv 2) (pv 3) (nomark _)))) pa_nil))))), ?rd⟩)
  case len => rintro ds d ⟨many, l, rfl, _, rfl⟩; rfl
  case rd =>
    rintro ds d ⟨many, l, rfl, hz, rfl⟩
    refine tr_when (b := !l.all (fun g => decide (0 ≤ g) && decide (g < many))) ?_ (fun c => ?_) (fun c => ?_)
    · refine (et_or (a := false) (b := !(l.map fun g => true && (decide (0 ≤ g) && decide (g < many))).all id) (et_not (a := true) (et_B (ed_CB (ea_cons (ed_var rfl) (ea_cons ed_raw ea_nil)) (rdl_isi (.tup _) (kit_ty (by decide +kernel)))))) fun _ => et_not (et_B (ed_CB (ea_cons ?_ ea_nil) rdl_all))).eq (by rw [List.all_map]; rfl)
      refine (ed_map1 l .int (fun g => .bl (true && (decide (0 ≤ g) && decide (g < many)))) (src_tup (ed_var rfl)) (by omega) fun g _ => ?_).eq (by rw [List.map_map]; rfl)
      refine ed_andV (ed_call (f := fIsNumber) (ea_cons (ed_var rfl) ea_nil) ⟨g, rfl, rfl⟩) fun _ => ?_
      exact et_chain ed_int (ed_var rfl) (fun _ => ed_var rfl) rd_le fun _ => rd_lt
    · refine tr_ret ed_bl ?_
      show D.bl false = _
      unfold okLot
      rw [show (l.all fun g => decide (0 ≤ g) && decide (g < many)) = false from by simpa using c]
      rfl
    · refine tr_ret (ed_CB (ea_cons ((ed_map2 (l.zip (l.drop 1)) (fun p => .int p.1) (fun p => .int p.2) (fun p => .bl (decide (p.1 < p.2))) (src_eq (src_zipT (ea_cons (ed_var rfl) (ea_cons (ed_slT (ed_var rfl) (eo_some ed_int) eo_none) ea_nil))) ?_) ?_ (by decide) fun p _ => ed_op (ed_var rfl) (ed_var rfl) rd_lt).eq (d' := .lst (((l.zip (l.drop 1)).map fun p => decide (p.1 < p.2)).map .bl)) (by rw [List.map_map]; rfl)) ea_nil) rdl_all) ?_
      · rw [cutD_tail, List.drop_one, ← List.map_tail, List.zipWith_map, List.zip, List.map_zipWith, List.drop_one]
      · rw [List.length_zip]; omega
      · show D.bl _ = _
        unfold okLot
        rw [show (l.all fun g => decide (0 ≤ g) && decide (g < many)) = true from by simpa using c, List.all_map]
        rfl
def fNeedLots : List D → D → Prop := fun ds d => ∃ many lots, ds = [.int many, dLL lots] ∧ (1 ≤ many ∧ many ≤ 16) ∧ lots.length ≤ 400 ∧ (∀ l ∈ lots, okLot many l = true ∧ l.length ≤ 10000) ∧ d = .non
theorem nd_need_lots : (["many", "lots", "at", "lot"] : List PySem.Str).Nodup := by decide +kernel
theorem ok_need_lots (F : Df K mg "need_lots" (top 14) ["many", "lots"] cdv) (B : Bn mg) (c_is_number : Cal P w K mg base 1 "is_number" (SpD T fIsNumber) []) (c_is_list : Cal P w K mg base 1 "is_list" (SpD T fIsList) []) (c_is_lot : Cal P w K mg base 2 "is_lot" (SpD T fIsLot) []) : Cal P w K mg base (2 + 1) "need_lots" (SpD T fNeedLots) [] := by
  have nd := nd_need_lots
  refine calD (N := ["many", "lots", "at", "lot"]) F (by decide +kernel) ?len (fun a A outer s H E hr => ⟨_, (pss_cons (ps_if (PW.pt (pw_or (pt_not (pt_val (pe_c c_is_number hr (by omega) rfl (pa_cons (pv 0) pa_nil)))) (pw_or1 (pt_not (pt_chain op_le op_le pe_int (pv 0) (pe_cI rfl (by exact B.cMOST_GAPS))))))) (pss_one ps_never) pss_nil)
    (pss_cons (ps_if (PW.pt (pw_or (pt_not (pt_val (pe_c c_is_list hr (by omega) rfl (pa_cons (pv 1) pa_nil)))) (pw_or1 (pt_cmpR op_gt (pe_callB (klen K) rfl (by exact B.len) (by decide +kernel) (pa_cons (pv 1) pa_nil)) (pe_cI rfl (by exact B.cMOST_LOTS)) (nomark _))))) (pss_one ps_never) pss_nil)
    (pss_one (ps_for PassesOwn.never rfl (kpi_enum K rfl (by exact B.enumerate) (pa_cons (pv 1) pa_nil)) (pg_tup rfl (pgs_cons (pg_name (i := 2) nd rfl (Or.inl rfl)) (pgs_cons (pg_name (i := 3) nd rfl (Or.inl rfl)) pgs_nil))) (pss_one (ps_if (pt_not (pt_val (pe_c c_is_lot hr (by omega) rfl (pa_cons (pv 0) (pa_cons (pv 3) pa_nil))))) (pss_one ps_never) pss_nil)))))), ?rd⟩)
  case len => rintro ds d ⟨many, l, rfl, _, _, _, rfl⟩; rfl
  case rd =>
    rintro ds d ⟨many, lots, rfl, hm, hl, hok, rfl⟩
    have e1 : decide (1 ≤ many) = true := decide_eq_true hm.1
    have e2 : decide (many ≤ 16) = true := decide_eq_true hm.2
    have e3 : decide ((400 : Int) < ((lots.map dI).length : Nat)) = false := decide_eq_false (by rw [List.length_map]; omega)
    refine tr_when (b := false) ((et_or (a := false) (b := !(decide (1 ≤ many) && decide (many ≤ 16))) (et_not (a := true) (et_B (ed_call (f := fIsNumber) (ea_cons (ed_var rfl) ea_nil) ⟨many, rfl, rfl⟩))) fun _ => et_not (et_test (et_chain ed_int (ed_var rfl) (fun _ => ed_int) rd_le fun _ => rd_le))).eq (by rw [e1, e2]; rfl)) (fun z => by cases z) fun _ => ?_
    refine tr_when (b := false) ((et_or (a := false) (b := decide ((400 : Int) < ((lots.map dI).length : Nat))) (et_not (a := true) (et_B (ed_call (f := fIsList) (ea_cons (ed_var rfl) ea_nil) ⟨_, rfl, rfl⟩))) fun _ => et_test (ed_op (ed_CB (ea_cons (ed_var rfl) ea_nil) rdl_len) ed_int rd_gt)).eq (by rw [e3]; rfl)) (fun z => by cases z) fun _ => ?_
    refine tr_for (src_enum (ea_cons (ed_var rfl) ea_nil)).n ?_
    rintro _ rfl
    refine ⟨fun _ e c => ∃ s2 s3, e = [.dat (.int many), .dat (dLL lots), s2, s3], ⟨_, _, rfl⟩, ?_, fun _ _ _ => rfl⟩
    rintro i d e c1 hd ⟨s2, s3, rfl⟩
    rw [List.getElem?_map, List.getElem?_zipIdx, List.getElem?_map] at hd
    cases h : lots[i]? with
    | none => rw [h] at hd; cases hd
    | some l =>
    rw [h] at hd
    cases hd
    have hx := hok l (List.mem_of_getElem? h)
    refine ⟨_, tg_tup2, tr_if (b := false) ((et_not (et_B (ed_call (f := fIsLot) (ea_cons (ed_var rfl) (ea_cons (ed_var rfl) ea_nil)) ⟨many, l, rfl, hx.2, rfl⟩))).eq (by rw [hx.1]; rfl)) (fun z => by cases z) fun _ => tr_next ⟨_, _, rfl⟩⟩
/-- the places of the lots that no gap of taken hits -/
def openN (lots : List (List Int)) (taken : List Int) : List Nat := (lots.zipIdx.filter fun p => !p.1.any fun g => decide (g ∈ taken)).map (·.2)
abbrev dLN (js : List Nat) : D := dLI (js.map fun (j : Nat) => (j : Int))
def fOpen : List D → D → Prop := fun ds d => ∃ lots taken, ds = [dLL lots, dI taken] ∧ lots.length ≤ 10000 ∧ (∀ l ∈ lots, l.length ≤ 10000) ∧ d = dLN (openN lots taken)
theorem nd_open_lots : (["lots", "taken", "at", "lot", "gap"] : List PySem.Str).Nodup := by decide +kernel
theorem ok_open_lots (F : Df K mg "open_lots" (top 15) ["lots", "taken"] cdv) (B : Bn mg) : Cal P w K mg base (0 + 1) "open_lots" (SpD T fOpen) [] := by
  have nd := nd_open_lots
  refine calD (N := ["lots", "taken", "at", "lot", "gap"]) F (by decide +kernel) ?len (fun a A outer s H E hr => ⟨_, (pss_one (ps_ret (pe_lc (g := gTup K 2 (gCons (gName 2) (gCons (gName 3) gNil))) rfl nd (kpi_enum K rfl (by exact B.enumerate) (pa_cons (pv 0) pa_nil)) (blkOk_by (own := [("at", 2), ("lot", 3)]) (by rfl)) (fun _ _ _ _ _ => (by exact pg_tup rfl (pgs_cons (pg_name (i := 2) nd rfl (Or.inl rfl)) (pgs_cons (pg_name (i := 3) nd rfl (Or.inl rfl)) pgs_nil)))) (fun _ _ _ _ _ => (pts_one (pt_not (pt_val (pe_callB (kany K rfl) rfl (by exact B.any) (by decide +kernel) (pa_cons (pe_lc rfl nd (kpi_tup K (pv 3)) (blkOk_by (own := [("gap", 4)]) (by rfl)) (fun _ _ _ _ _ => (pg_name (i := 4) nd rfl (Or.inl rfl))) (fun _ _ _ _ _ => pts_nil) (fun _ _ _ _ _ => (pe_cmpR (kin K) (pv 4) (pv 1) (by rfl)))) pa_nil)))))) (fun _ _ _ _ _ => (pv 2))))), ?rd⟩)
  case len => rintro ds d ⟨lots, taken, rfl, _, _, rfl⟩; rfl
  case rd =>
    rintro ds d ⟨lots, taken, rfl, hz, hz2, rfl⟩
    refine tr_ret ((ed_lc2 lots.zipIdx (fun p => .int (p.2 : Nat)) (fun p => dI p.1) (fun p => !p.1.any fun g => decide (g ∈ taken)) (fun p => .int (p.2 : Nat)) (src_eq (src_enum (ea_cons (ed_var rfl) ea_nil)) ?_) ?_ (by decide) (fun p hp => ?_) fun p hp _ => ed_var rfl).eq ?_) rfl
    · rw [List.zipIdx_map, List.map_map]; rfl
    · rw [List.length_zipIdx]; omega
    · have hl : p.1 ∈ lots := List.mem_of_getElem? (List.mk_mem_zipIdx_iff_getElem?.mp hp)
      refine (et_not (et_B (ed_CB (ea_cons ((ed_map1 p.1 .int (fun g => .bl (decide (g ∈ taken))) (src_tup (ed_var rfl)) (by have := hz2 _ hl; omega) fun g _ => ed_op (ed_var rfl) (ed_var rfl) (rd_inT (neg := false))).eq (d' := .lst ((p.1.map fun g => decide (g ∈ taken)).map .bl)) (by rw [List.map_map]; rfl)) ea_nil) rdl_any))).eq ?_
      rw [List.any_map]; rfl
    · unfold openN dLN dLI
      rw [List.map_map, List.map_map]
      rfl
/-- the first one with a least key -/
def pick {α κ : Type} (lt : κ → κ → Bool) (key : α → κ) : α → List α → α
  | x, [] => x
  | x, y :: r => if lt (key (pick lt key y r)) (key x) = true then pick lt key y r else x
theorem pick_min {α κ : Type} {lt : κ → κ → Bool} (O : SrtO.Swo lt) (key : α → κ) (d : α) : ∀ (r : List α) (x : α), ∃ i, (x :: r)[i]? = some (pick lt key x r) ∧ IsMin lt (fun i => key ((x :: r).getD i d)) (x :: r).length i
  | [], x => ⟨0, rfl, fun j hj => by
    have e : j = 0 := by simp at hj; exact hj
    subst e
    exact ⟨O.refl _, fun z => absurd z (Nat.lt_irrefl _)⟩⟩
  | y :: r, x => by
    obtain ⟨i, hi, hm⟩ := pick_min O key d r y
    have ei : (y :: r).getD i d = pick lt key y r := by rw [List.getD_eq_getElem?_getD, hi]; rfl
    unfold pick
    by_cases c : lt (key (pick lt key y r)) (key x) = true
    · rw [if_pos c]
      refine ⟨i + 1, hi, fun j hj => ?_⟩
      cases j with
      | zero =>
        show lt (key x) (key ((y :: r).getD i d)) = false ∧ (0 < i + 1 → lt (key ((y :: r).getD i d)) (key x) = true)
        rw [ei]
        exact ⟨O.asym _ _ c, fun _ => c⟩
      | succ j =>
        have q := hm j (by simpa using hj)
        exact ⟨q.1, fun z => q.2 (Nat.lt_of_succ_lt_succ z)⟩
    · rw [if_neg c]
      have c' : lt (key (pick lt key y r)) (key x) = false := by simpa using c
      refine ⟨0, rfl, fun j hj => ?_⟩
      cases j with
      | zero => exact ⟨O.refl _, fun z => absurd z (Nat.lt_irrefl _)⟩
      | succ j =>
        have q := (hm j (by simpa using hj)).1
        have q : lt (key ((y :: r).getD j d)) (key ((y :: r).getD i d)) = false := q
        rw [ei] at q
        exact ⟨O.tr _ _ _ c' q, fun z => absurd z (Nat.not_lt_zero _)⟩
theorem pick_mem {α κ : Type} {lt : κ → κ → Bool} {key : α → κ} : ∀ {r : List α} {x : α}, pick lt key x r ∈ x :: r
  | [], x => List.mem_cons_self
  | y :: r, x => by
    unfold pick
    split
    · exact List.mem_cons_of_mem _ pick_mem
    · exact List.mem_cons_self
/-- the place of a shortest lot among js -/
def keyS (lots : List (List Int)) (j : Nat) : List Int := [((lots.getD j []).length : Int), (j : Int)]
def shortN (lots : List (List Int)) (js : List Nat) : Nat := match js with
  | [] => 0
  | j :: r => pick HT.lexLt (keyS lots) j r
def fShortest : List D → D → Prop := fun ds d => ∃ lots js, ds = [dLL lots, dLN js] ∧ js ≠ [] ∧ (∀ j ∈ js, j < lots.length) ∧ d = .int (shortN lots js : Nat)
theorem nd_shortest : (["lots", "indexes", "at"] : List PySem.Str).Nodup := by decide +kernel
theorem ok_shortest (F : Df K mg "shortest" (top 16) ["lots", "indexes"] (.ref c0)) (TB : TabB base mg c0 P0) (hT : (P0, ("shortest.<locals>.<lambda>" : Str)) ∈ T) (hu1 : ∀ p ∈ T, p.1 = P0 → p.2 = ("shortest.<locals>.<lambda>" : Str)) (B : Bn mg) : Cal P w K mg base (4 + 1) "shortest" (SpD T fShortest) [] := by
  have nd := nd_shortest
  refine calD (N := ["lots", "indexes", "at"]) F (by decide +kernel) ?len (fun a A outer s H E hr => ⟨_, (pss_one (ps_ret (pe_minK (j := 2) (T := T) (k := 1) (keyTup _) rfl rfl (by exact B.min) (pv 1) TB rfl hT hu1 (hr.mono (by decide)) (lamS1_by (by rfl)) nd rfl rfl (fun _ _ _ _ _ _ => rfl) (fun _ _ _ _ hr => (pe_tup (pa_cons (pe_callB (klen K) rfl (by exact B.len) (by decide +kernel) (pa_cons (pe_ix (kix K) (pv 0) (pv 2) (fun _ _ => rfl)) pa_nil)) (pa_cons (pv 2) pa_nil))))))), ?rd⟩)
  case len => rintro ds d ⟨lots, taken, rfl, _, _, rfl⟩; rfl
  case rd =>
    rintro ds d ⟨lots, js, rfl, hne, hj, rfl⟩
    cases js with
    | nil => exact absurd rfl hne
    | cons j0 r =>
    obtain ⟨i, hi, hm⟩ := pick_min swo_lexLt (keyS lots) 0 r j0
    refine tr_ret (ed_minK (KO := keyTup _) keyD_tup (i0 := i) (kf := fun i => keyS lots ((j0 :: r).getD i 0)) (ed_var rfl) (fun i d hd => ?_) ?_ ?_) rfl
    · rw [List.getElem?_map, List.getElem?_map] at hd
      cases h : (j0 :: r)[i]? with
      | none => rw [h] at hd; cases hd
      | some j =>
      rw [h] at hd
      cases hd
      have e : (j0 :: r).getD i 0 = j := by rw [List.getD_eq_getElem?_getD, h]; rfl
      have hl := hj j (List.mem_of_getElem? h)
      have hx : (lots.map dI)[j]? = some (dI (lots.getD j [])) := by rw [List.getElem?_map, List.getElem?_eq_getElem hl, List.getD_eq_getElem?_getD, List.getElem?_eq_getElem hl]; rfl
      show ED _ _ _ (dI (keyS lots ((j0 :: r).getD i 0)))
      rw [e]
      refine (ed_tup (ea_cons (ed_CB (ea_cons (ed_op (ed_var rfl) (ed_var rfl) (rd_ixL hx)) ea_nil) rdl_lenT) (ea_cons (ed_var rfl) ea_nil)) (by simp)).eq ?_
      unfold keyS
      rw [List.length_map]
      rfl
    · rw [List.getElem?_map, List.getElem?_map, hi]; rfl
    · rw [List.length_map, List.length_map]; exact hm
theorem openN_lt {lots : List (List Int)} {taken : List Int} {j : Nat} (h : j ∈ openN lots taken) : j < lots.length := by
  unfold openN at h
  obtain ⟨p, hp, rfl⟩ := List.mem_map.mp h
  have q := List.mk_mem_zipIdx_iff_getElem?.mp (List.mem_filter.mp hp).1
  exact (List.getElem?_eq_some_iff.mp q).1
theorem shortN_mem {lots : List (List Int)} {js : List Nat} (h : js ≠ []) : shortN lots js ∈ js := by
  cases js with
  | nil => exact absurd rfl h
  | cons j r => exact pick_mem
/-- the lot that can_hit looks at -/
def lotAt (lots : List (List Int)) (taken : List Int) : List Int := lots.getD (shortN lots (openN lots taken)) []
def canHit (lots : List (List Int)) (first : Int) : Nat → List Int → Bool
  | 0, taken => (openN lots taken).isEmpty
  | m + 1, taken => (openN lots taken).isEmpty || (lotAt lots taken).any fun g => decide (first ≤ g) && canHit lots first m (taken ++ [g])
def SzOk (lots : List (List Int)) : Prop := lots.length ≤ 10000 ∧ ∀ l ∈ lots, l.length ≤ 10000
def fCanHit (n : Nat) : List D → D → Prop := fun ds d => ∃ lots taken, ∃ (m : Nat) (first : Int), ds = [dLL lots, dI taken, .int (m : Nat), .int first] ∧ m < n ∧ SzOk lots ∧ taken.length + m ≤ 5000 ∧ d = .bl (canHit lots first m taken)
theorem at_lot {lots : List (List Int)} {j : Nat} (hl : j < lots.length) : (lots.map dI)[j]? = some (dI (lots.getD j [])) := by
  rw [List.getElem?_map, List.getElem?_eq_getElem hl, List.getD_eq_getElem?_getD, List.getElem?_eq_getElem hl]; rfl
theorem getD_mem {α : Type} {l : List α} {j : Nat} {d : α} (hl : j < l.length) : l.getD j d ∈ l := by
  rw [List.getD_eq_getElem?_getD, List.getElem?_eq_getElem hl]
  exact List.getElem_mem hl
theorem nd_can_hit : (["lots", "taken", "more", "first", "left", "lot", "gap"] : List PySem.Str).Nodup := by decide +kernel
theorem ok_can_hit {n : Nat} (F : Df K mg "can_hit" (top 17) ["lots", "taken", "more", "first"] cdv) (B : Bn mg) (c_open_lots : Cal P w K mg base 1 "open_lots" (SpD T fOpen) []) (c_shortest : Cal P w K mg base 5 "shortest" (SpD T fShortest) []) (c_can_hit : Cal P w K mg base (6 + n) "can_hit" (SpD T (fCanHit n)) []) : Cal P w K mg base ((6+n) + 1) "can_hit" (SpD T (fCanHit (n+1))) [] := by
  have nd := nd_can_hit
  refine calD (N := ["lots", "taken", "more", "first", "left", "lot", "gap"]) F (by decide +kernel) ?len (fun a A outer s H E hr => ⟨_, (pss_cons (ps_set (i := 4) nd rfl (Or.inl rfl) (pe_c c_open_lots hr (by omega) rfl (pa_cons (pv 0) (pa_cons (pv 1) pa_nil))))
    (pss_cons (ps_if (pt_cmpR (keq K hr.units) (pe_callB (klen K) rfl (by exact B.len) (by decide +kernel) (pa_cons (pv 4) pa_nil)) pe_int (nomark _)) (pss_one (ps_ret pe_bl)) pss_nil)
    (pss_cons (ps_if (pt_cmpR (keq K hr.units) (pv 2) pe_int (nomark _)) (pss_one (ps_ret pe_bl)) pss_nil)
    (pss_cons (ps_set (i := 5) nd rfl (Or.inl rfl) (pe_ix (kix K) (pv 0) (pe_c c_shortest hr (by omega) rfl (pa_cons (pv 0) (pa_cons (pv 4) pa_nil))) (fun _ _ => rfl)))
    (pss_one (ps_ret (pe_callB (kany K rfl) rfl (by exact B.any) (by decide +kernel) (pa_cons (pe_lc rfl nd (kpi_tup K (pv 5)) (blkOk_by (own := [("gap", 6)]) (by rfl)) (fun _ _ _ _ _ => (pg_name (i := 6) nd rfl (Or.inl rfl))) (fun _ _ _ _ _ => pts_nil) (fun _ _ _ _ _ => (pe_and (pe_cmpR op_ge (pv 6) (pv 3) (nomark _)) (pe_one (pe_c c_can_hit hr (by omega) rfl (pa_cons (pv 0) (pa_cons (pe_tup (kstar K (pv 1) (pa_cons (pv 6) pa_nil))) (pa_cons (pe_op op_sub (pv 2) pe_int) (pa_cons (pv 3) pa_nil))))))))) pa_nil)))))))), ?rd⟩)
  case len => rintro ds d ⟨lots, taken, m, first, rfl, _⟩; rfl
  case rd =>
    rintro ds d ⟨lots, taken, m, first, rfl, hm, hz, ht, rfl⟩
    refine tr_set (ed_call (f := fOpen) (ea_cons (ed_var rfl) (ea_cons (ed_var rfl) ea_nil)) ⟨lots, taken, rfl, hz.1, hz.2, rfl⟩) ?_
    refine tr_when (et_test (ed_op (ed_CB (ea_cons (ed_var rfl) ea_nil) rdl_len) ed_int rd_eqI)) (fun c => ?_) fun c => ?_
    · refine tr_ret ed_bl ?_
      have c : (((openN lots taken).map fun (j : Nat) => (j : Int)).map D.int).length = 0 := by have := of_decide_eq_true c; omega
      rw [List.length_map, List.length_map] at c
      have e : (openN lots taken).isEmpty = true := by rw [List.length_eq_zero_iff.mp c]; rfl
      show D.bl true = _
      cases m with
      | zero => unfold canHit; rw [e]
      | succ m => unfold canHit; rw [e]; rfl
    have c : openN lots taken ≠ [] := fun z => by rw [z] at c; cases c
    have e : (openN lots taken).isEmpty = false := by
      cases h : openN lots taken with
      | nil => exact absurd h c
      | cons => rfl
    refine tr_when (et_test (ed_op (ed_var rfl) ed_int rd_eqI)) (fun c2 => ?_) fun c2 => ?_
    · refine tr_ret ed_bl ?_
      have c2 : m = 0 := by have := of_decide_eq_true c2; omega
      subst c2
      show D.bl false = _
      unfold canHit
      rw [e]
    cases m with
    | zero => cases c2
    | succ m =>
    have hs := shortN_mem (lots := lots) c
    have hl := openN_lt hs
    refine tr_set (ed_op (ed_var rfl) (ed_call (f := fShortest) (ea_cons (ed_var rfl) (ea_cons (ed_var rfl) ea_nil)) ⟨lots, openN lots taken, rfl, c, fun j hj => openN_lt hj, rfl⟩) (rd_ixL (at_lot hl))) ?_
    refine tr_ret ((ed_CB (ea_cons ((ed_map1 (lotAt lots taken) .int (fun g => .bl (decide (first ≤ g) && canHit lots first m (taken ++ [g]))) (src_tup (ed_var rfl)) (by have := hz.2 _ (getD_mem (d := []) hl); unfold lotAt; omega) fun g _ => ?_).eq (d' := .lst (((lotAt lots taken).map fun g => decide (first ≤ g) && canHit lots first m (taken ++ [g])).map .bl)) (by rw [List.map_map]; rfl)) ea_nil) rdl_any).eq (d' := .bl (canHit lots first (m + 1) taken)) ?_) rfl
    · refine ed_andV (ed_op (ed_var rfl) (ed_var rfl) rd_ge) fun _ => ?_
      refine ed_call (f := fCanHit n) (ea_cons (ed_var rfl) (ea_cons ((ed_tup (ea_starT (ed_var rfl) (ea_cons (ed_var rfl) ea_nil)) ?_).eq (d' := dI (taken ++ [g])) (by rw [dI, List.map_append]; rfl)) (ea_cons ((ed_op (ed_var rfl) ed_int rd_sub).eq (d' := .int (m : Nat)) (by congr 1; omega)) (ea_cons (ed_var rfl) ea_nil)))) ⟨lots, taken ++ [g], m, first, rfl, by omega, hz, by rw [List.length_append, List.length_singleton]; omega, rfl⟩
      rw [List.length_append, List.length_map, List.length_singleton]; omega
    · rw [List.any_map, canHit, e]
      rfl
theorem can_hit_all (F : Df K mg "can_hit" (top 17) ["lots", "taken", "more", "first"] cdv) (B : Bn mg) (c1 : Cal P w K mg base 1 "open_lots" (SpD T fOpen) []) (c2 : Cal P w K mg base 5 "shortest" (SpD T fShortest) []) : ∀ n : Nat, Cal P w K mg base (6 + n) "can_hit" (SpD T (fCanHit n)) []
  | 0 => cal_none F fun ds d ⟨_, _, m, _, _, h, _⟩ => absurd h (Nat.not_lt_zero m)
  | n + 1 => ok_can_hit F B c1 c2 (can_hit_all F B c1 c2 n)
def firstOf (found : List Int) : Int := match found.getLast? with
  | none => 0
  | some x => x + 1
def stepL (many : Int) (lots : List (List Int)) (m : Nat) (found : List Int) : List Int := (rgD (firstOf found) many).filter fun g => canHit lots (g + 1) m (found ++ [g])
def leastOf (many : Int) (lots : List (List Int)) : Nat → List Int → Option (List Int)
  | 0, found => some found
  | m + 1, found => match stepL many lots m found with
    | [] => none
    | g :: _ => leastOf many lots m (found ++ [g])
def fLeastOf : List D → D → Prop := fun ds d => ∃ many lots, ∃ (size : Nat) (r : List Int), ds = [.int many, dLL lots, .int (size : Nat)] ∧ (1 ≤ many ∧ many ≤ 16) ∧ SzOk lots ∧ size ≤ 16 ∧ leastOf many lots size [] = some r ∧ d = dI r
theorem stepL_ge {many : Int} {lots : List (List Int)} {m : Nat} {found : List Int} {g : Int} (h : g ∈ stepL many lots m found) : firstOf found ≤ g ∧ g < many := by
  have h := (List.mem_filter.mp h).1
  unfold rgD at h
  obtain ⟨i, hi, rfl⟩ := List.mem_map.mp h
  have := List.mem_range.mp hi
  omega
theorem nd_least_of : (["many", "lots", "size", "found", "turn", "first", "some", "gap"] : List PySem.Str).Nodup := by decide +kernel
theorem ok_least_of (F : Df K mg "least_of" (top 18) ["many", "lots", "size"] cdv) (B : Bn mg) (c_can_hit : Cal P w K mg base 24 "can_hit" (SpD T (fCanHit 18)) []) : Cal P w K mg base (24 + 1) "least_of" (SpD T fLeastOf) [] := by
  have nd := nd_least_of
  refine calD (N := ["many", "lots", "size", "found", "turn", "first", "some", "gap"]) F (by decide +kernel) ?len (fun a A outer s H E hr => ⟨_, (pss_cons (ps_set (i := 3) nd rfl (Or.inr rfl) (pe_tup pa_nil))
    (pss_cons (ps_for PassesOwn.never rfl (pi_range1 rfl (by exact B.range) (pa_cons (pv 2) pa_nil)) (pg_name (i := 4) nd rfl (Or.inr rfl)) (pss_cons (ps_set (i := 5) nd rfl (Or.inl rfl) (pe_ifExp (pt_cmpR op_gt (pv 4) pe_int (nomark _)) (pe_op op_add (pe_ix (kix K) (pv 3) (pe_un un_neg pe_int) (fun _ _ => rfl)) pe_int) pe_int))
    (pss_cons (ps_setLc (i := 6) rfl nd rfl rfl (sw_true rfl rfl rfl (by decide +kernel)) (pi_range2 rfl (by exact B.range) (pa_cons (pv 5) (pa_cons (pv 0) pa_nil))) (blkOk_by (own := [("gap", 7)]) (by rfl)) (fun _ _ _ _ _ => (pg_name (i := 7) nd rfl (Or.inl rfl))) (fun _ _ _ _ _ => (pts_one (pt_val (pe_c c_can_hit hr (by omega) rfl (pa_cons (pv 1) (pa_cons (pe_tup (kstar K (pv 3) (pa_cons (pv 7) pa_nil))) (pa_cons (pe_op op_sub (pe_op op_sub (pv 2) (pv 4)) pe_int) (pa_cons (pe_op op_add (pv 7) pe_int) pa_nil)))))))) (fun _ _ _ _ _ => (pv 7)))
    (pss_one (ps_set (i := 3) nd rfl (Or.inr rfl) (pe_tup (kstar K (pv 3) (pa_cons (pe_ix (kix K) (pv 6) pe_int (fun _ _ => rfl)) pa_nil))))))))
    (pss_one (ps_ret (pv 3))))), ?rd⟩)
  case len => rintro ds d ⟨many, lots, size, r, rfl, _⟩; rfl
  case rd =>
    rintro ds d ⟨many, lots, size, r, rfl, hm, hz, hs, hr', rfl⟩
    refine tr_set (d := dI []) (ed_tup ea_nil (by decide)) ?_
    refine tr_seq (fun e c => c = 0 ∧ ∃ s4 s5 s6, e = [.dat (.int many), .dat (dLL lots), .dat (.int (size : Nat)), .dat (dI r), s4, s5, s6, .emp]) ?_ ?_
    · refine tr_for (src_range1 (ea_cons (ed_var rfl) ea_nil) (by omega)).n ?_
      rintro _ rfl
      refine ⟨fun i e c => c = 0 ∧ i ≤ size ∧ ∃ found s4 s5 s6, e = [.dat (.int many), .dat (dLL lots), .dat (.int (size : Nat)), .dat (dI found), s4, s5, s6, .emp] ∧ found.length = i ∧ (0 ≤ firstOf found ∧ firstOf found ≤ many) ∧ leastOf many lots (size - i) found = some r, ⟨rfl, Nat.zero_le _, [], _, _, _, rfl, rfl, ⟨Int.le_refl _, by show 0 ≤ many; omega⟩, hr'⟩, ?_, ?_⟩
      · rintro i d e c1 hd ⟨rfl, hi, found, s4, s5, s6, rfl, hfl, hfo, hlo⟩
        have hil : i < size := by
          have := (List.getElem?_eq_some_iff.mp hd).1
          rw [List.length_map, List.length_range] at this
          omega
        rw [List.getElem?_map, List.getElem?_range (by omega)] at hd
        cases hd
        refine ⟨_, tg_name, ?_⟩
        obtain ⟨m, em⟩ : ∃ m, size - i = m + 1 := ⟨size - i - 1, by omega⟩
        rw [em] at hlo
        refine tr_set (d := .int (firstOf found)) ((ed_if (et_test (ed_op (ed_var rfl) ed_int rd_gt)) (fun h => ?_) fun h => ?_)) ?_
        · have hp : 0 < i := by have := of_decide_eq_true h; omega
          rcases List.eq_nil_or_concat found with e | ⟨f', x, e⟩
          · rw [e] at hfl; exact absurd hfl (by show ¬ 0 = i; omega)
          rw [List.concat_eq_append] at e
          subst e
          have e1 : dI (f' ++ [x]) = .tup (f'.map .int ++ [.int x]) := by rw [dI, List.map_append]; rfl
          refine (ed_op (ed_op ((ed_var rfl).eq e1) (ed_un ed_int rd1_neg) rd_ixLast) ed_int rd_add).eq ?_
          unfold firstOf
          rw [List.getLast?_append]
          rfl
        · have hp : i = 0 := by have := of_decide_eq_false h; omega
          rw [hp] at hfl
          rw [List.length_eq_zero_iff.mp hfl]
          exact ed_int
        refine tr_set (d := dLI (stepL many lots m found)) ((ed_lc1 (rgD (firstOf found) many) .int (fun g => canHit lots (g + 1) m (found ++ [g])) .int (src_eq (src_range2 (ea_cons (ed_var rfl) (ea_cons (ed_var rfl) ea_nil)) (by omega)) (by unfold rgD; rw [List.map_map]; rfl)) ?_ (fun g hg => ?_) fun g _ _ => ed_var rfl)) ?_
        · unfold rgD; rw [List.length_map, List.length_range]; omega
        · refine et_B (ed_call (f := fCanHit 18) (ea_cons (ed_var rfl) (ea_cons ((ed_tup (ea_starT (ed_var rfl) (ea_cons (ed_var rfl) ea_nil)) ?_).eq (d' := dI (found ++ [g])) (by rw [dI, List.map_append]; rfl)) (ea_cons ((ed_op (ed_op (ed_var rfl) (ed_var rfl) rd_sub) ed_int rd_sub).eq (d' := .int (m : Nat)) (by congr 1; omega)) (ea_cons (ed_op (ed_var rfl) ed_int rd_add) ea_nil)))) ⟨lots, found ++ [g], m, g + 1, rfl, by omega, hz, by rw [List.length_append, List.length_singleton]; omega, rfl⟩)
          rw [List.length_append, List.length_map, List.length_singleton]; omega
        cases hst : stepL many lots m found with
        | nil => unfold leastOf at hlo; rw [hst] at hlo; cases hlo
        | cons g rest =>
        unfold leastOf at hlo
        rw [hst] at hlo
        refine tr_set1 (d := dI (found ++ [g])) ((ed_tup (ea_starT (ed_var rfl) (ea_cons (ed_op (ed_var rfl) ed_int (rd_ixL (i := 0) rfl)) ea_nil)) ?_).eq (by rw [dI, List.map_append]; rfl)) ?_
        · rw [List.length_append, List.length_map, List.length_singleton]; omega
        refine ⟨rfl, by omega, found ++ [g], _, _, _, rfl, by rw [List.length_append, List.length_singleton, hfl], ?_, ?_⟩
        · have q := stepL_ge (hst ▸ List.mem_cons_self : g ∈ stepL many lots m found)
          have e : firstOf (found ++ [g]) = g + 1 := by unfold firstOf; rw [List.getLast?_append]; rfl
          rw [e]; omega
        · rw [show size - (i + 1) = m by omega]; exact hlo
      · rintro e c1 ⟨rfl, hi, found, s4, s5, s6, rfl, hfl, hfo, hlo⟩
        rw [List.length_map, List.length_range] at hlo
        rw [show size - ((size : Nat) : Int).toNat = 0 by omega] at hlo
        cases hlo
        exact ⟨rfl, _, _, _, rfl⟩
    · rintro e c ⟨rfl, s4, s5, s6, rfl⟩
      exact tr_ret (ed_var rfl) rfl
end
end K43


set_option Elab.async false
set_option linter.all false
set_option maxRecDepth 100000
set_option maxHeartbeats 4000000
/-! The package's defs, further: least hits, trees. -/
namespace K43
open PySem PySem.Spec PyProof.Rows L2 LamX C8 Fx
section
variable {P : Program} {w : World} {K : PySem.W.Frag} {mg : Str → Option Value} {base : Heap} {T : List (Addr × Str)} {cdv : Value} {c0 P0 : Addr}
theorem any_nil_in : ∀ lots : List (List Int), ((pyL (lots.map dI)).any fun z => PyData.eqv z (dI []).py) = decide ([] ∈ lots) := fun lots => by
  rw [any_pyL, List.any_map]
  have e : (lots.any ((fun z => PyData.eqv z.py (dI []).py) ∘ dI)) = lots.any fun l => decide (l = []) := by
    congr 1
    funext l
    exact eqv_dI
  rw [e, Bool.eq_iff_iff]
  simp
def IsLeast (many : Int) (lots : List (List Int)) (r : List Int) : Prop := ∃ size : Nat, size ≤ 16 ∧ canHit lots 0 size [] = true ∧ (∀ m, m < size → canHit lots 0 m [] = false) ∧ leastOf many lots size [] = some r
/-- the lots that need_lots takes -/
def LotsOk (many : Int) (lots : List (List Int)) : Prop := (1 ≤ many ∧ many ≤ 16) ∧ lots.length ≤ 400 ∧ ∀ l ∈ lots, okLot many l = true ∧ l.length ≤ 10000
theorem LotsOk.sz {many : Int} {lots : List (List Int)} (h : LotsOk many lots) : SzOk lots := ⟨by have := h.2.1; omega, fun l hl => (h.2.2 l hl).2⟩
def fLeast : List D → D → Prop := fun ds d => ∃ many lots, ds = [.int many, dLL lots] ∧ LotsOk many lots ∧ (([] ∈ lots ∧ d = .non) ∨ ([] ∉ lots ∧ ∃ r, IsLeast many lots r ∧ d = dI r))
theorem nd_least_hits : (["many", "lots", "size"] : List PySem.Str).Nodup := by decide +kernel
theorem ok_least_hits (F : Df K mg "least_hits" (top 19) ["many", "lots"] cdv) (B : Bn mg) (c_need_lots : Cal P w K mg base 3 "need_lots" (SpD T fNeedLots) []) (c_can_hit : Cal P w K mg base 24 "can_hit" (SpD T (fCanHit 18)) []) (c_least_of : Cal P w K mg base 25 "least_of" (SpD T fLeastOf) []) : Cal P w K mg base (25 + 1) "least_hits" (SpD T fLeast) [] := by
  have nd := nd_least_hits
  refine calD (N := ["many", "lots", "size"]) F (by decide +kernel) ?len (fun a A outer s H E hr => ⟨_, (pss_cons (ps_expr (pe_c c_need_lots hr (by omega) rfl (pa_cons (pv 0) (pa_cons (pv 1) pa_nil))))
    (pss_cons (ps_if (pt_cmpR (kinD K (room65 hr)) (pe_tup pa_nil) (pv 1) (by rfl)) (pss_one (ps_ret pe_non)) pss_nil)
    (pss_cons (ps_set (i := 2) nd rfl (Or.inl rfl) pe_int)
    (pss_cons (ps_while PassesOwn.never (pt_not (pt_val (pe_c c_can_hit hr (by omega) rfl (pa_cons (pv 1) (pa_cons (pe_tup pa_nil) (pa_cons (pv 2) (pa_cons pe_int pa_nil))))))) (pss_one (ps_aug (i := 2) nd rfl (Or.inl rfl) pe_int ip_add)))
    (pss_one (ps_ret (pe_c c_least_of hr (by omega) rfl (pa_cons (pv 0) (pa_cons (pv 1) (pa_cons (pv 2) pa_nil)))))))))), ?rd⟩)
  case len => rintro ds d ⟨many, lots, rfl, _⟩; rfl
  case rd =>
    rintro ds d ⟨many, lots, rfl, ok, hd⟩
    refine tr_drop (d := .non) (ed_call (f := fNeedLots) (ea_cons (ed_var rfl) (ea_cons (ed_var rfl) ea_nil)) ⟨many, lots, rfl, ok.1, ok.2.1, ok.2.2, rfl⟩) ?_
    refine tr_when (et_test ((ed_op (ed_tup ea_nil (by decide)) (ed_var rfl) (rd_inD (x := dI []) (n := 1) (m := 2) ok_dI ok_dLL)).eq (congrArg D.bl (any_nil_in lots)))) (fun c => ?_) fun c => ?_
    · have c := of_decide_eq_true c
      refine tr_ret ed_non ?_
      rcases hd with ⟨_, rfl⟩ | ⟨n, _⟩
      · rfl
      · exact absurd c n
    have c := of_decide_eq_false c
    rcases hd with ⟨n, _⟩ | ⟨_, r, ⟨size, hs, ht, hf, hr⟩, rfl⟩
    · exact absurd n c
    refine tr_set (d := .int 0) ed_int ?_
    refine tr_seq (fun e c => c = 0 ∧ e = [.dat (.int many), .dat (dLL lots), .dat (.int (size : Nat))]) ?_ ?_
    · refine tr_while (fun m e c => c = 0 ∧ m ≤ size ∧ e = [.dat (.int many), .dat (dLL lots), .dat (.int ((size - m : Nat) : Int))]) size ⟨rfl, Nat.le_refl _, by rw [Nat.sub_self]; rfl⟩ ?_
      rintro m e1 c1 ⟨rfl, hm, rfl⟩
      refine ⟨_, et_not (et_B (ed_call (f := fCanHit 18) (ea_cons (ed_var rfl) (ea_cons (ed_tup ea_nil (by decide)) (ea_cons (ed_var rfl) (ea_cons ed_int ea_nil)))) ⟨lots, [], size - m, 0, rfl, by omega, ok.sz, by simp; omega, rfl⟩)), fun z => ?_, fun z => ?_⟩
      · have hlt : 0 < m := by
          rcases Nat.eq_zero_or_pos m with q | q
          · rw [q, Nat.sub_zero, ht] at z; cases z
          · exact q
        refine tr_aug1 (f := fun a b => a + b) rfl ed_int ⟨m - 1, by omega, rfl, by omega, ?_⟩
        have e : ((size - m : Nat) : Int) + 1 = ((size - (m - 1) : Nat) : Int) := by omega
        show [Slot.dat (.int many), .dat (dLL lots), .dat (.int (((size - m : Nat) : Int) + 1))] = _
        rw [e]
      · refine ⟨rfl, ?_⟩
        have e : m = 0 := by
          rcases Nat.eq_zero_or_pos m with q | q
          · exact q
          · have := hf (size - m) (by omega)
            rw [this] at z
            cases z
        rw [e]; rfl
    · rintro e c ⟨rfl, rfl⟩
      exact tr_ret (ed_call (f := fLeastOf) (ea_cons (ed_var rfl) (ea_cons (ed_var rfl) (ea_cons (ed_var rfl) ea_nil))) ⟨many, lots, size, r, rfl, ok.1, ok.sz, hs, hr, rfl⟩) rfl
/-- the tree that grown makes -/
def grownD (lots : List (List Int)) : Nat → List Int → D
  | 0, taken => .tup [.str "end", .int (shortN lots (openN lots taken) : Nat)]
  | m + 1, taken => .tup [.str "part", .int (shortN lots (openN lots taken) : Nat), .dic ((lotAt lots taken).map fun g => (.inl g, grownD lots m (taken ++ [g])))]
def TreeOk (lots : List (List Int)) : Prop := SzOk lots ∧ ∀ l ∈ lots, l.Nodup ∧ ∀ g ∈ l, 0 ≤ g
theorem open_of_not {lots : List (List Int)} {first : Int} {m : Nat} {taken : List Int} (h : canHit lots first m taken = false) : openN lots taken ≠ [] := fun e => by
  cases m with
  | zero => unfold canHit at h; rw [e] at h; cases h
  | succ m => unfold canHit at h; rw [e] at h; cases h
theorem sub_of_not {lots : List (List Int)} {first : Int} {m : Nat} {taken : List Int} (h : canHit lots first (m + 1) taken = false) {g : Int} (hg : g ∈ lotAt lots taken) (h0 : first ≤ g) : canHit lots first m (taken ++ [g]) = false := by
  unfold canHit at h
  rw [Bool.or_eq_false_iff] at h
  have h2 := List.any_eq_false.mp h.2 g hg
  rw [decide_eq_true h0, Bool.true_and] at h2
  simpa using h2
theorem lotAt_mem {lots : List (List Int)} {taken : List Int} (h : openN lots taken ≠ []) : lotAt lots taken ∈ lots := getD_mem (openN_lt (shortN_mem h))
theorem lotAt_open {lots : List (List Int)} {taken : List Int} (h : openN lots taken ≠ []) : ((lotAt lots taken).any fun g => decide (g ∈ taken)) = false := by
  have q := shortN_mem (lots := lots) h
  have ql := openN_lt q
  unfold openN at q
  obtain ⟨p, hp, e⟩ := List.mem_map.mp q
  have q1 := List.mk_mem_zipIdx_iff_getElem?.mp (List.mem_filter.mp hp).1
  have q2 := (List.mem_filter.mp hp).2
  have e2 : lotAt lots taken = p.1 := by
    unfold lotAt
    rw [List.getD_eq_getElem?_getD]
    have e' : shortN lots (openN lots taken) = p.2 := e.symm
    rw [e', q1]
    rfl
  rw [e2]
  simpa using q2
def fGrown (n : Nat) : List D → D → Prop := fun ds d => ∃ lots taken, ∃ m : Nat, ds = [dLL lots, dI taken, .int (m : Nat)] ∧ m < n ∧ TreeOk lots ∧ taken.length + m ≤ 5000 ∧ canHit lots 0 m taken = false ∧ d = grownD lots m taken
theorem nd_grown : (["lots", "taken", "more", "index", "gap"] : List PySem.Str).Nodup := by decide +kernel
theorem ok_grown {n : Nat} (F : Df K mg "grown" (top 20) ["lots", "taken", "more"] cdv) (B : Bn mg) (c_open_lots : Cal P w K mg base 1 "open_lots" (SpD T fOpen) []) (c_shortest : Cal P w K mg base 5 "shortest" (SpD T fShortest) []) (c_grown : Cal P w K mg base (6 + n) "grown" (SpD T (fGrown n)) []) : Cal P w K mg base ((6+n) + 1) "grown" (SpD T (fGrown (n+1))) [] := by
  have nd := nd_grown
  refine calD (N := ["lots", "taken", "more", "index", "gap"]) F (by decide +kernel) ?len (fun a A outer s H E hr => ⟨_, (pss_cons (ps_set (i := 3) nd rfl (Or.inl rfl) (pe_c c_shortest hr (by omega) rfl (pa_cons (pv 0) (pa_cons (pe_c c_open_lots hr (by omega) rfl (pa_cons (pv 0) (pa_cons (pv 1) pa_nil))) pa_nil))))
    (pss_cons (ps_if (pt_cmpR (keq K hr.units) (pv 2) pe_int (nomark _)) (pss_one (ps_ret (pe_tup (pa_cons (pe_cS rfl (by exact B.cEND)) (pa_cons (pv 3) pa_nil))))) pss_nil)
    (pss_one (ps_ret (pe_tup (pa_cons (pe_cS rfl (by exact B.cPART)) (pa_cons (pv 3) (pa_cons (pe_frz (pe_dc rfl nd (kpi_tup K (pe_ix (kix K) (pv 0) (pv 3) (fun _ _ => rfl))) (blkOk_by (own := [("gap", 4)]) (by rfl)) (fun _ _ _ _ _ => (pg_name (i := 4) nd rfl (Or.inl rfl))) (fun _ _ _ _ _ => pts_nil) (fun _ _ _ _ _ => (pv 4)) (fun _ _ _ _ _ => (pe_c c_grown hr (by omega) rfl (pa_cons (pv 0) (pa_cons (pe_tup (kstar K (pv 1) (pa_cons (pv 4) pa_nil))) (pa_cons (pe_op op_sub (pv 2) pe_int) pa_nil))))))) pa_nil)))))))), ?rd⟩)
  case len => rintro ds d ⟨lots, taken, m, rfl, _⟩; rfl
  case rd =>
    rintro ds d ⟨lots, taken, m, rfl, hm, hz, ht, hc, rfl⟩
    have ho := open_of_not hc
    have hs := shortN_mem (lots := lots) ho
    have hl := openN_lt hs
    refine tr_set (ed_call (f := fShortest) (ea_cons (ed_var rfl) (ea_cons (ed_call (f := fOpen) (ea_cons (ed_var rfl) (ea_cons (ed_var rfl) ea_nil)) ⟨lots, taken, rfl, hz.1.1, hz.1.2, rfl⟩) ea_nil)) ⟨lots, openN lots taken, rfl, ho, fun j hj => openN_lt hj, rfl⟩) ?_
    refine tr_when (et_test (ed_op (ed_var rfl) ed_int rd_eqI)) (fun c2 => ?_) fun c2 => ?_
    · have c2 : m = 0 := by have := of_decide_eq_true c2; omega
      subst c2
      exact tr_ret (ed_tup (ea_cons ed_str (ea_cons (ed_var rfl) ea_nil)) (by simp)) rfl
    cases m with
    | zero => cases c2
    | succ m =>
    refine tr_ret (ed_tup (ea_cons ed_str (ea_cons (ed_var rfl) (ea_cons (ed_dc (lotAt lots taken) .int (fun d => List.set ([.dat (dLL lots), .dat (dI taken), .dat (.int ((m + 1 : Nat) : Int)), .dat (.int (shortN lots (openN lots taken) : Nat)), .emp] : Fx.Env') 4 (.dat d)) (fun g => .inl g) (fun g => grownD lots m (taken ++ [g])) (src_tup (ed_op (ed_var rfl) (ed_var rfl) (rd_ixL (at_lot hl)))) ?_ (fun g _ => tgc_name List.mem_cons_self) (fun g _ => ed_var rfl) (fun g hg => ?_) ?_) ea_nil))) (by simp)) rfl
    · have := hz.1.2 _ (lotAt_mem ho); omega
    · refine ed_call (f := fGrown n) (ea_cons (ed_var rfl) (ea_cons ((ed_tup (ea_starT (ed_var rfl) (ea_cons (ed_var rfl) ea_nil)) ?_).eq (d' := dI (taken ++ [g])) (by rw [dI, List.map_append]; rfl)) (ea_cons ((ed_op (ed_var rfl) ed_int rd_sub).eq (d' := .int (m : Nat)) (by congr 1; omega)) ea_nil))) ⟨lots, taken ++ [g], m, rfl, by omega, hz, by rw [List.length_append, List.length_singleton]; omega, sub_of_not hc hg ((hz.2 _ (lotAt_mem ho)).2 g hg), rfl⟩
      rw [List.length_append, List.length_map, List.length_singleton]; omega
    · have h1 := (hz.2 _ (lotAt_mem ho)).1
      exact List.pairwise_map.mpr (h1.imp fun h e => h (Sum.inl.inj e))
theorem grown_all (F : Df K mg "grown" (top 20) ["lots", "taken", "more"] cdv) (B : Bn mg) (c1 : Cal P w K mg base 1 "open_lots" (SpD T fOpen) []) (c2 : Cal P w K mg base 5 "shortest" (SpD T fShortest) []) : ∀ n : Nat, Cal P w K mg base (6 + n) "grown" (SpD T (fGrown n)) []
  | 0 => cal_none F fun ds d ⟨_, _, m, _, h, _⟩ => absurd h (Nat.not_lt_zero m)
  | n + 1 => ok_grown F B c1 c2 (grown_all F B c1 c2 n)
def fNeedNumber : List D → D → Prop := fun ds d => ∃ n : Nat, ds = [.int (n : Nat)] ∧ n ≤ 16 ∧ d = .non
theorem nd_need_number : (["number"] : List PySem.Str).Nodup := by decide +kernel
theorem ok_need_number (F : Df K mg "need_number" (top 21) ["number"] cdv) (B : Bn mg) (c_is_number : Cal P w K mg base 1 "is_number" (SpD T fIsNumber) []) : Cal P w K mg base (1 + 1) "need_number" (SpD T fNeedNumber) [] := by
  have nd := nd_need_number
  refine calD (N := ["number"]) F (by decide +kernel) ?len (fun a A outer s H E hr => ⟨_, (pss_one (ps_if (PW.pt (pw_or (pt_not (pt_val (pe_c c_is_number hr (by omega) rfl (pa_cons (pv 0) pa_nil)))) (pw_or1 (pt_not (pt_chain op_le op_le pe_int (pv 0) (pe_cI rfl (by exact B.cMOST_GAPS))))))) (pss_one ps_never) pss_nil)), ?rd⟩)
  case len => rintro ds d ⟨n, rfl, _⟩; rfl
  case rd =>
    rintro ds d ⟨n, rfl, hn, rfl⟩
    have e1 : decide ((0 : Int) ≤ (n : Nat)) = true := decide_eq_true (by omega)
    have e2 : decide (((n : Nat) : Int) ≤ 16) = true := decide_eq_true (by omega)
    refine tr_if (b := false) ((et_or (a := false) (b := !(decide ((0 : Int) ≤ (n : Nat)) && decide (((n : Nat) : Int) ≤ 16))) (et_not (a := true) (et_B (ed_call (f := fIsNumber) (ea_cons (ed_var rfl) ea_nil) ⟨_, rfl, rfl⟩))) fun _ => et_not (et_test (et_chain ed_int (ed_var rfl) (fun _ => ed_int) rd_le fun _ => rd_le))).eq (by rw [e1, e2]; rfl)) (fun z => by cases z) fun _ => tr_next rfl
theorem LotsOk.lot {many : Int} {lots : List (List Int)} (h : LotsOk many lots) {l : List Int} (hl : l ∈ lots) : l.Pairwise (· < ·) ∧ ∀ g ∈ l, 0 ≤ g ∧ g < many := by
  have q := (h.2.2 l hl).1
  unfold okLot at q
  rw [Bool.and_eq_true, List.all_eq_true, List.all_eq_true] at q
  refine ⟨?_, fun g hg => by simpa using q.1 g hg⟩
  have : ∀ m : List Int, (∀ p ∈ m.zip (m.drop 1), decide (p.1 < p.2) = true) → m.Pairwise (· < ·) := by
    intro m
    induction m with
    | nil => intro _; exact .nil
    | cons x r ih =>
      intro h
      cases r with
      | nil => exact List.pairwise_singleton _ _
      | cons y r =>
        have h1 : x < y := of_decide_eq_true (h (x, y) (by simp))
        have h2 := ih fun p hp => h p (by simp at hp ⊢; exact .inr hp)
        refine List.pairwise_cons.mpr ⟨fun z hz => ?_, h2⟩
        rcases List.mem_cons.mp hz with rfl | hz
        · exact h1
        · exact Int.lt_trans h1 (List.rel_of_pairwise_cons h2 hz)
  exact this l q.2
theorem LotsOk.tree {many : Int} {lots : List (List Int)} (h : LotsOk many lots) : TreeOk lots := ⟨h.sz, fun l hl => ⟨(h.lot hl).1.imp fun q e => by omega, fun g hg => ((h.lot hl).2 g hg).1⟩⟩
def fHitTree : List D → D → Prop := fun ds d => ∃ many lots, ∃ n : Nat, ds = [.int many, dLL lots, .int (n : Nat)] ∧ LotsOk many lots ∧ n ≤ 16 ∧ d = if canHit lots 0 n [] then .non else grownD lots n []
theorem nd_hit_tree : (["many", "lots", "number"] : List PySem.Str).Nodup := by decide +kernel
theorem ok_hit_tree (F : Df K mg "hit_tree" (top 22) ["many", "lots", "number"] cdv) (B : Bn mg) (c_need_lots : Cal P w K mg base 3 "need_lots" (SpD T fNeedLots) []) (c_need_number : Cal P w K mg base 2 "need_number" (SpD T fNeedNumber) []) (c_can_hit : Cal P w K mg base 24 "can_hit" (SpD T (fCanHit 18)) []) (c_grown : Cal P w K mg base 24 "grown" (SpD T (fGrown 18)) []) : Cal P w K mg base (26 + 1) "hit_tree" (SpD T fHitTree) [] := by
  have nd := nd_hit_tree
  refine calD (N := ["many", "lots", "number"]) F (by decide +kernel) ?len (fun a A outer s H E hr => ⟨_, (pss_cons (ps_expr (pe_c c_need_lots hr (by omega) rfl (pa_cons (pv 0) (pa_cons (pv 1) pa_nil))))
    (pss_cons (ps_expr (pe_c c_need_number hr (by omega) rfl (pa_cons (pv 2) pa_nil)))
    (pss_one (ps_ret (pe_ifExp (pt_val (pe_c c_can_hit hr (by omega) rfl (pa_cons (pv 1) (pa_cons (pe_tup pa_nil) (pa_cons (pv 2) (pa_cons pe_int pa_nil)))))) pe_non (pe_c c_grown hr (by omega) rfl (pa_cons (pv 1) (pa_cons (pe_tup pa_nil) (pa_cons (pv 2) pa_nil))))))))), ?rd⟩)
  case len => rintro ds d ⟨many, lots, n, rfl, _⟩; rfl
  case rd =>
    rintro ds d ⟨many, lots, n, rfl, ok, hn, rfl⟩
    refine tr_drop (d := .non) (ed_call (f := fNeedLots) (ea_cons (ed_var rfl) (ea_cons (ed_var rfl) ea_nil)) ⟨many, lots, rfl, ok.1, ok.2.1, ok.2.2, rfl⟩) ?_
    refine tr_drop (d := .non) (ed_call (f := fNeedNumber) (ea_cons (ed_var rfl) ea_nil) ⟨n, rfl, hn, rfl⟩) ?_
    refine tr_ret (d := if canHit lots 0 n [] then .non else grownD lots n []) (ed_if (et_B (ed_call (f := fCanHit 18) (ea_cons (ed_var rfl) (ea_cons (ed_tup ea_nil (by decide)) (ea_cons (ed_var rfl) (ea_cons ed_int ea_nil)))) ⟨lots, [], n, 0, rfl, by omega, ok.sz, by simp; omega, rfl⟩)) (fun h => ?_) fun h => ?_) rfl
    · rw [h]; exact ed_non
    · rw [h]
      exact ed_call (f := fGrown 18) (ea_cons (ed_var rfl) (ea_cons (ed_tup ea_nil (by decide)) (ea_cons (ed_var rfl) ea_nil))) ⟨lots, [], n, rfl, by omega, ok.tree, by simp; omega, h, rfl⟩
def fIsGrown (n : Nat) : List D → D → Prop := fun ds d => ∃ lots taken, ∃ m more : Nat, ds = [dLL lots, dI taken, .int (more : Nat), grownD lots m taken] ∧ more < n ∧ TreeOk lots ∧ taken.length + m ≤ 5000 ∧ canHit lots 0 m taken = false ∧
  ((more = m ∧ d = .bl true) ∨ (more = m + 1 ∧ (∀ l ∈ lots, l ≠ []) ∧ d = .bl false))
theorem lkD_map {α : Type} [DecidableEq α] (key : α → Key) (hk : ∀ a b, key a = key b → a = b) (g : α → D) : ∀ {l : List α} {x : α}, x ∈ l → lkD (l.map fun x => (key x, g x)) (key x) = some (g x)
  | y :: r, x, h => by
    by_cases e : y = x
    · subst e; simp [lkD]
    · have : lkD ((y :: r).map fun x => (key x, g x)) (key x) = lkD (r.map fun x => (key x, g x)) (key x) := by
        have : ¬ key y = key x := fun q => e (hk _ _ q)
        simp [lkD, this]
      rw [this]
      exact lkD_map key hk g (by
        rcases List.mem_cons.mp h with q | q
        · exact absurd q.symm e
        · exact q)
theorem nd_is_grown : (["lots", "taken", "more", "thing", "lot", "gap"] : List PySem.Str).Nodup := by decide +kernel
theorem ok_is_grown {n : Nat} (F : Df K mg "is_grown" (top 24) ["lots", "taken", "more", "thing"] cdv) (B : Bn mg) (c_is_number : Cal P w K mg base 1 "is_number" (SpD T fIsNumber) []) (c_is_grown : Cal P w K mg base (2 + n) "is_grown" (SpD T (fIsGrown n)) []) : Cal P w K mg base ((2+n) + 1) "is_grown" (SpD T (fIsGrown (n+1))) [] := by
  have nd := nd_is_grown
  refine calD (N := ["lots", "taken", "more", "thing", "lot", "gap"]) F (by decide +kernel) ?len (fun a A outer s H E hr => ⟨_, (pss_cons (ps_if (PW.pt (pw_or (pt_not (pt_val (pe_callB (kisi K) rfl (by exact B.isinstance) (by decide +kernel) (pa_cons (pv 3) (pa_cons (pe_bltn (v := .ty "tuple") rfl (by exact B.tuple) (by decide +kernel) rfl) pa_nil))))) (pw_or (pt_cmpR (kne K hr.units) (pe_callB (klen K) rfl (by exact B.len) (by decide +kernel) (pa_cons (pv 3) pa_nil)) (pe_ifExp (pt_cmpR (keq K hr.units) (pv 2) pe_int (nomark _)) pe_int pe_int) (nomark _)) (pw_or1 (pt_not (pt_val (pe_callB (kisi K) rfl (by exact B.isinstance) (by decide +kernel) (pa_cons (pe_ix (kix K) (pv 3) pe_int (fun _ _ => rfl)) (pa_cons (pe_bltn (v := .ty "str") rfl (by exact B.str) (by decide +kernel) rfl) pa_nil))))))))) (pss_one (ps_ret pe_bl)) pss_nil)
    (pss_cons (ps_if (PW.pt (pw_or (pt_cmpR (kne K hr.units) (pe_ix (kix K) (pv 3) pe_int (fun _ _ => rfl)) (pe_ifExp (pt_cmpR (keq K hr.units) (pv 2) pe_int (nomark _)) (pe_cS rfl (by exact B.cEND)) (pe_cS rfl (by exact B.cPART))) (nomark _)) (pw_or (pt_not (pt_val (pe_c c_is_number hr (by omega) rfl (pa_cons (pe_ix (kix K) (pv 3) pe_int (fun _ _ => rfl)) pa_nil)))) (pw_or1 (pt_not (pt_chain op_le op_lt pe_int (pe_ix (kix K) (pv 3) pe_int (fun _ _ => rfl)) (pe_callB (klen K) rfl (by exact B.len) (by decide +kernel) (pa_cons (pv 0) pa_nil)))))))) (pss_one (ps_ret pe_bl)) pss_nil)
    (pss_cons (ps_set (i := 4) nd rfl (Or.inr rfl) (pe_ix (kix K) (pv 0) (pe_ix (kix K) (pv 3) pe_int (fun _ _ => rfl)) (fun _ _ => rfl)))
    (pss_cons (ps_if (pt_val (pe_callB (kany K rfl) rfl (by exact B.any) (by decide +kernel) (pa_cons (pe_lc rfl nd (kpi_tup K (pv 4)) (blkOk_by (own := [("gap", 5)]) (by rfl)) (fun _ _ _ _ _ => (pg_name (i := 5) nd rfl (Or.inl rfl))) (fun _ _ _ _ _ => pts_nil) (fun _ _ _ _ _ => (pe_cmpR (kin K) (pv 5) (pv 1) (by rfl)))) pa_nil))) (pss_one (ps_ret pe_bl)) pss_nil)
    (pss_cons (ps_if (pt_cmpR (keq K hr.units) (pv 2) pe_int (nomark _)) (pss_one (ps_ret pe_bl)) pss_nil)
    (pss_cons (ps_if (PW.pt (pw_or (pt_not (pt_val (pe_callB (kisi K) rfl (by exact B.isinstance) (by decide +kernel) (pa_cons (pe_ix (kix K) (pv 3) pe_int (fun _ _ => rfl)) (pa_cons (pe_bltn (v := .ty "dict") rfl (by exact B.dict) (by decide +kernel) rfl) pa_nil))))) (pw_or1 (pt_cmpR (kne K hr.units) (pe_callB klenD rfl (by exact B.len) (by decide +kernel) (pa_cons (pe_ix (kix K) (pv 3) pe_int (fun _ _ => rfl)) pa_nil)) (pe_callB (klen K) rfl (by exact B.len) (by decide +kernel) (pa_cons (pv 4) pa_nil)) (nomark _))))) (pss_one (ps_ret pe_bl)) pss_nil)
    (pss_cons (ps_if (pt_not (pt_val (pe_callB (kall K rfl) rfl (by exact B.all) (by decide +kernel) (pa_cons (pe_lc rfl nd (pi_keys (pe_ix (kix K) (pv 3) pe_int (fun _ _ => rfl))) (blkOk_by (own := [("gap", 5)]) (by rfl)) (fun _ _ _ _ _ => (pg_name (i := 5) nd rfl (Or.inl rfl))) (fun _ _ _ _ _ => pts_nil) (fun _ _ _ _ _ => (pe_and (pe_c c_is_number hr (by omega) rfl (pa_cons (pv 5) pa_nil)) (pe_one (pe_cmpR (kin K) (pv 5) (pv 4) (by rfl)))))) pa_nil)))) (pss_one (ps_ret pe_bl)) pss_nil)
    (pss_one (ps_ret (pe_callB (kall K rfl) rfl (by exact B.all) (by decide +kernel) (pa_cons (pe_lc rfl nd (kpi_tup K (pv 4)) (blkOk_by (own := [("gap", 5)]) (by rfl)) (fun _ _ _ _ _ => (pg_name (i := 5) nd rfl (Or.inl rfl))) (fun _ _ _ _ _ => pts_nil) (fun _ _ _ _ _ => (pe_c c_is_grown hr (by omega) rfl (pa_cons (pv 0) (pa_cons (pe_tup (kstar K (pv 1) (pa_cons (pv 5) pa_nil))) (pa_cons (pe_op op_sub (pv 2) pe_int) (pa_cons (pe_dget (hu_of hr) (pe_ix (kix K) (pv 3) pe_int (fun _ _ => rfl)) (pv 5) (fun _ _ => rfl)) pa_nil))))))) pa_nil))))))))))), ?rd⟩)
  case len => rintro ds d ⟨lots, taken, m, more, rfl, _⟩; rfl
  case rd =>
    rintro ds d ⟨lots, taken, m, more, rfl, hm, hz, ht, hc, hd⟩
    have ho := open_of_not hc
    have hs := shortN_mem (lots := lots) ho
    have hl := openN_lt hs
    have hlo := lotAt_open ho
    have e0 : decide ((0 : Int) ≤ (shortN lots (openN lots taken) : Nat)) = true := decide_eq_true (by omega)
    have e1 : decide (((shortN lots (openN lots taken) : Nat) : Int) < ((lots.map dI).length : Nat)) = true := decide_eq_true (by rw [List.length_map]; omega)
    have x1 : D.eqv (.str "end") (.str "end") = true := by decide +kernel
    have x2 : D.eqv (.str "part") (.str "part") = true := by decide +kernel
    have y1 : D.ok 0 (.str "end") = true := by decide +kernel
    have y2 : D.ok 0 (.str "part") = true := by decide +kernel
    cases m with
    | zero =>
      rcases hd with ⟨rfl, rfl⟩ | ⟨rfl, hne, rfl⟩
      · -- a leaf
        refine tr_when (b := false) ((et_or (a := false) (b := false) (et_not (a := true) (et_B (ed_CB (ea_cons (ed_var rfl) (ea_cons ed_raw ea_nil)) (rdl_isi (.tup _) (kit_ty (by decide +kernel)))))) fun _ =>
          et_or (a := false) (b := false) (et_test (ed_op (ed_CB (ea_cons (ed_var rfl) ea_nil) rdl_lenT) (ed_if (b := true) (d := .int 2) (et_test (ed_op (ed_var rfl) ed_int rd_eqI)) (fun _ => ed_int) fun z => by cases z) rd_neI)) fun _ =>
          et_not (a := true) (et_B (ed_CB (ea_cons (ed_op (ed_var rfl) ed_int (rd_ixT (i := 0) rfl)) (ea_cons ed_raw ea_nil)) (rdl_isi (.str _) (kit_ty (by decide +kernel)))))).eq rfl) (fun z => by cases z) fun _ => ?_
        refine tr_when (b := false) ((et_or (a := false) (b := false) ((et_test (ed_op (ed_op (ed_var rfl) ed_int (rd_ixT (i := 0) rfl)) (ed_if (b := true) (d := .str "end") (et_test (ed_op (ed_var rfl) ed_int rd_eqI)) (fun _ => ed_str) fun z => by cases z) (rd_neD y1 y1))).eq (by rw [x1]; rfl)) fun _ =>
          et_or (a := false) (b := false) (et_not (a := true) (et_B (ed_call (f := fIsNumber) (ea_cons (ed_op (ed_var rfl) ed_int (rd_ixT (i := 1) rfl)) ea_nil) ⟨_, rfl, rfl⟩))) fun _ =>
          et_not (a := true) ((et_test (et_chain ed_int (ed_op (ed_var rfl) ed_int (rd_ixT (i := 1) rfl)) (fun _ => ed_CB (ea_cons (ed_var rfl) ea_nil) rdl_len) rd_le fun _ => rd_lt)).eq (by rw [e0, e1]; rfl))).eq rfl) (fun z => by cases z) fun _ => ?_
        refine tr_set (d := dI (lotAt lots taken)) (ed_op (ed_var rfl) (ed_op (ed_var rfl) ed_int (rd_ixT (i := 1) rfl)) (rd_ixL (at_lot hl))) ?_
        refine tr_when (b := false) ((et_B (ed_CB (ea_cons ((ed_map1 (lotAt lots taken) .int (fun g => .bl (decide (g ∈ taken))) (src_tup (ed_var rfl)) (by have := hz.1.2 _ (lotAt_mem ho); omega) fun g _ => ed_op (ed_var rfl) (ed_var rfl) (rd_inT (neg := false))).eq (d' := .lst (((lotAt lots taken).map fun g => decide (g ∈ taken)).map .bl)) (by rw [List.map_map]; rfl)) ea_nil) rdl_any)).eq (by rw [List.any_map]; exact hlo)) (fun z => by cases z) fun _ => ?_
        exact tr_when (b := true) (et_test (ed_op (ed_var rfl) ed_int rd_eqI)) (fun _ => tr_ret ed_bl rfl) fun z => by cases z
      · refine tr_when (b := true) ((et_or (a := false) (b := true) (et_not (a := true) (et_B (ed_CB (ea_cons (ed_var rfl) (ea_cons ed_raw ea_nil)) (rdl_isi (.tup _) (kit_ty (by decide +kernel)))))) fun _ =>
          et_or (a := true) (b := false) (et_test (ed_op (ed_CB (ea_cons (ed_var rfl) ea_nil) rdl_lenT) (ed_if (b := false) (d := .int 3) (et_test (ed_op (ed_var rfl) ed_int rd_eqI)) (fun z => by cases z) fun _ => ed_int) rd_neI)) fun z => by cases z).eq rfl) (fun _ => tr_ret ed_bl rfl) fun z => by cases z
    | succ m =>
      have hm0 : ((more : Nat) : Int) ≠ 0 := by rcases hd with ⟨rfl, _⟩ | ⟨rfl, _⟩ <;> omega
      have hm1 : decide (((more : Nat) : Int) = 0) = false := decide_eq_false hm0
      refine tr_when (b := false) ((et_or (a := false) (b := false) (et_not (a := true) (et_B (ed_CB (ea_cons (ed_var rfl) (ea_cons ed_raw ea_nil)) (rdl_isi (.tup _) (kit_ty (by decide +kernel)))))) fun _ =>
        et_or (a := false) (b := false) (et_test (ed_op (ed_CB (ea_cons (ed_var rfl) ea_nil) rdl_lenT) (ed_if (b := false) (d := .int 3) ((et_test (ed_op (ed_var rfl) ed_int rd_eqI)).eq hm1) (fun z => by cases z) fun _ => ed_int) rd_neI)) fun _ =>
        et_not (a := true) (et_B (ed_CB (ea_cons (ed_op (ed_var rfl) ed_int (rd_ixT (i := 0) rfl)) (ea_cons ed_raw ea_nil)) (rdl_isi (.str _) (kit_ty (by decide +kernel)))))).eq rfl) (fun z => by cases z) fun _ => ?_
      refine tr_when (b := false) ((et_or (a := false) (b := false) ((et_test (ed_op (ed_op (ed_var rfl) ed_int (rd_ixT (i := 0) rfl)) (ed_if (b := false) (d := .str "part") ((et_test (ed_op (ed_var rfl) ed_int rd_eqI)).eq hm1) (fun z => by cases z) fun _ => ed_str) (rd_neD y2 y2))).eq (by rw [x2]; rfl)) fun _ =>
        et_or (a := false) (b := false) (et_not (a := true) (et_B (ed_call (f := fIsNumber) (ea_cons (ed_op (ed_var rfl) ed_int (rd_ixT (i := 1) rfl)) ea_nil) ⟨_, rfl, rfl⟩))) fun _ =>
        et_not (a := true) ((et_test (et_chain ed_int (ed_op (ed_var rfl) ed_int (rd_ixT (i := 1) rfl)) (fun _ => ed_CB (ea_cons (ed_var rfl) ea_nil) rdl_len) rd_le fun _ => rd_lt)).eq (by rw [e0, e1]; rfl))).eq rfl) (fun z => by cases z) fun _ => ?_
      refine tr_set (d := dI (lotAt lots taken)) (ed_op (ed_var rfl) (ed_op (ed_var rfl) ed_int (rd_ixT (i := 1) rfl)) (rd_ixL (at_lot hl))) ?_
      refine tr_when (b := false) ((et_B (ed_CB (ea_cons ((ed_map1 (lotAt lots taken) .int (fun g => .bl (decide (g ∈ taken))) (src_tup (ed_var rfl)) (by have := hz.1.2 _ (lotAt_mem ho); omega) fun g _ => ed_op (ed_var rfl) (ed_var rfl) (rd_inT (neg := false))).eq (d' := .lst (((lotAt lots taken).map fun g => decide (g ∈ taken)).map .bl)) (by rw [List.map_map]; rfl)) ea_nil) rdl_any)).eq (by rw [List.any_map]; exact hlo)) (fun z => by cases z) fun _ => ?_
      refine tr_when (b := false) ((et_test (ed_op (ed_var rfl) ed_int rd_eqI)).eq hm1) (fun z => by cases z) fun _ => ?_
      refine tr_when (b := false) ((et_or (a := false) (b := false) (et_not (a := true) (et_B (ed_CB (ea_cons (ed_op (ed_var rfl) ed_int (rd_ixT (i := 2) rfl)) (ea_cons ed_raw ea_nil)) (rdl_isi (.dic _) (kit_ty (by decide +kernel)))))) fun _ =>
        (et_test (ed_op (ed_CB (ea_cons (ed_op (ed_var rfl) ed_int (rd_ixT (i := 2) rfl)) ea_nil) rdl_lenD) (ed_CB (ea_cons (ed_var rfl) ea_nil) rdl_lenT) rd_neI)).eq (by rw [List.length_map, List.length_map, decide_eq_true rfl]; rfl)).eq rfl) (fun z => by cases z) fun _ => ?_
      have hsz : (lotAt lots taken).length ≤ 100000 := by have := hz.1.2 _ (lotAt_mem ho); omega
      refine tr_when (b := false) ((et_not (et_B (ed_CB (ea_cons ((ed_map1 (lotAt lots taken) .int (fun g => .bl (true && decide (g ∈ lotAt lots taken))) (src_eq (src_keys (ed_op (ed_var rfl) ed_int (rd_ixT (i := 2) rfl))) (by rw [List.map_map]; rfl)) hsz fun g _ => ed_andV (ed_call (f := fIsNumber) (ea_cons (ed_var rfl) ea_nil) ⟨g, rfl, rfl⟩) fun _ => ed_op (ed_var rfl) (ed_var rfl) (rd_inT (neg := false))).eq (d' := .lst (((lotAt lots taken).map fun g => true && decide (g ∈ lotAt lots taken)).map .bl)) (by rw [List.map_map]; rfl)) ea_nil) rdl_all))).eq ?_) (fun z => by cases z) fun _ => ?_
      · rw [List.all_map]
        have : ((lotAt lots taken).all (id ∘ fun g => true && decide (g ∈ lotAt lots taken))) = true := List.all_eq_true.mpr fun g hg => by simpa using hg
        rw [this]; rfl
      have step : ∀ b : Bool, ((more = m + 1 ∧ b = true) ∨ (more = m + 1 + 1 ∧ (∀ l ∈ lots, l ≠ []) ∧ b = false)) → ∀ g ∈ lotAt lots taken, fIsGrown n [dLL lots, dI (taken ++ [g]), .int ((more - 1 : Nat) : Int), grownD lots m (taken ++ [g])] (.bl b) := fun b hb g hg =>
        ⟨lots, taken ++ [g], m, more - 1, rfl, by omega, hz, by rw [List.length_append, List.length_singleton]; omega, sub_of_not hc hg ((hz.2 _ (lotAt_mem ho)).2 g hg), by
          rcases hb with ⟨q, rfl⟩ | ⟨q, q2, rfl⟩
          · exact .inl ⟨by omega, rfl⟩
          · exact .inr ⟨by omega, q2, rfl⟩⟩
      have hb : ∃ b : Bool, d = .bl b ∧ ((more = m + 1 ∧ b = true) ∨ (more = m + 1 + 1 ∧ (∀ l ∈ lots, l ≠ []) ∧ b = false)) := by
        rcases hd with ⟨q, rfl⟩ | ⟨q, q2, rfl⟩
        · exact ⟨true, rfl, .inl ⟨q, rfl⟩⟩
        · exact ⟨false, rfl, .inr ⟨q, q2, rfl⟩⟩
      obtain ⟨b, rfl, hb⟩ := hb
      refine tr_ret (d := .bl b) ((ed_CB (ea_cons ((ed_map1 (lotAt lots taken) .int (fun g => .bl b) (src_tup (ed_var rfl)) hsz fun g hg => ?_).eq (d' := .lst (((lotAt lots taken).map fun g => b).map .bl)) (by rw [List.map_map]; rfl)) ea_nil) rdl_all).eq ?_) rfl
      · refine ed_call (f := fIsGrown n) (ea_cons (ed_var rfl) (ea_cons ((ed_tup (ea_starT (ed_var rfl) (ea_cons (ed_var rfl) ea_nil)) ?_).eq (d' := dI (taken ++ [g])) (by rw [dI, List.map_append]; rfl)) (ea_cons ((ed_op (ed_var rfl) ed_int rd_sub).eq (d' := .int ((more - 1 : Nat) : Int)) (by congr 1; omega)) (ea_cons (ed_dget (k := .inl g) (ed_op (ed_var rfl) ed_int (rd_ixT (i := 2) rfl)) (ed_var rfl) (lkD_map (fun g => .inl g) (fun a b h => Sum.inl.inj h) (fun g => grownD lots m (taken ++ [g])) hg)) ea_nil)))) (step b hb g hg)
        rw [List.length_append, List.length_map, List.length_singleton]; omega
      · rw [List.all_map]
        congr 1
        rcases hb with ⟨q, rfl⟩ | ⟨q, q2, rfl⟩
        · exact List.all_eq_true.mpr fun g hg => rfl
        · have h1 := q2 _ (lotAt_mem ho)
          cases h2 : lotAt lots taken with
          | nil => exact absurd h2 h1
          | cons x r => rfl
theorem is_grown_all (F : Df K mg "is_grown" (top 24) ["lots", "taken", "more", "thing"] cdv) (B : Bn mg) (c1 : Cal P w K mg base 1 "is_number" (SpD T fIsNumber) []) : ∀ n : Nat, Cal P w K mg base (2 + n) "is_grown" (SpD T (fIsGrown n)) []
  | 0 => cal_none F fun ds d ⟨_, _, m, _, _, h, _⟩ => absurd h (Nat.not_lt_zero _)
  | n + 1 => ok_is_grown F B c1 (is_grown_all F B c1 n)
end
end K43


set_option Elab.async false
set_option linter.all false
set_option maxRecDepth 100000
set_option maxHeartbeats 4000000
/-! The law's draws. -/
namespace K43
open PySem PySem.Spec PyProof.Rows L2 LamX C8 Fx
section
variable {P : Program} {w : World} {K : PySem.W.Frag} {mg : Str → Option Value} {base : Heap} {T : List (Addr × Str)} {cdv : Value} {c0 P0 : Addr} {W0' : Wld T} {S lw lc : Addr} {cells : List Int}
theorem rd_mulW {W : Wld T} {i j : Int} (h : CMulW i j) : RD2 W (rI CMulW fun i j => .int (i * j)) (.int i) (.int j) (.int (i * j)) := rd_I h fun _ => .int _
theorem rd_divW {W : Wld T} {i j : Int} (h : CDivW i j) : RD2 W (rI CDivW fun i j => .int (i / j)) (.int i) (.int j) (.int (i / j)) := rd_I h fun _ => .int _
theorem rd_pow {W : Wld T} {i j : Int} (h : CPow i j) : RD2 W (rI CPow fun i j => .int (i ^ j.toNat)) (.int i) (.int j) (.int (i ^ j.toNat)) := rd_I h fun _ => .int _
def fMix (S : Addr) : List D → (D → Prop) → Prop := fun ds P => ds = [.raw (.ref S)] ∧ ∀ x : Int, 0 ≤ x → P (.int x)
theorem natAbs_lt {x : Int} {n : Nat} (h0 : 0 ≤ x) (h : x < (2 : Int) ^ n) : x.natAbs < 2 ^ n := by
  have : ((x.natAbs : Nat) : Int) < ((2 ^ n : Nat) : Int) := by
    rw [Int.natCast_pow]
    have : ((x.natAbs : Nat) : Int) = x := Int.natAbs_of_nonneg h0
    rw [this]
    exact h
  exact Int.ofNat_lt.mp this
theorem nd_law_mixed_up : (["_law_state", "_law_found", "_law_turn", "_law_prime", "_law_blend", "_law_cell"] : List PySem.Str).Nodup := by decide +kernel
theorem ok_law_mixed_up (F : Df K mg "_law_mixed_up" (top 27) ["_law_state"] cdv) (B : Bn mg) : Cal P w K mg base (1 + 1) "_law_mixed_up" (SpSx T 1 fMix) [] := by
  have nd := nd_law_mixed_up
  refine calSx (N := ["_law_state", "_law_found", "_law_turn", "_law_prime", "_law_blend", "_law_cell"]) F (by decide +kernel) ?len (fun a A outer s H E hr => ⟨_, (pss_cons (ps_dput (hu_of hr) (pv 0) pe_str (pe_op op_add (pe_dget (hu_of hr) (pv 0) pe_str (fun _ _ => rfl)) pe_int) rfl)
    (pss_cons (ps_par (i := 1) (j := 2) rfl nd rfl rfl (by decide) rfl rfl (pa_cons pe_int (pa_cons (pe_dget (hu_of hr) (pv 0) pe_str (fun _ _ => rfl)) pa_nil)) (by rfl))
    (pss_cons (ps_for PassesOwn.never rfl (kpi_list K (pe_lst (pa_cons pe_int (pa_cons pe_int (pa_cons pe_int (pa_cons pe_int (pa_cons pe_int (pa_cons pe_int pa_nil)))))))) (pg_name (i := 3) nd rfl (Or.inl rfl)) (pss_cons (ps_set (i := 4) nd rfl (Or.inl rfl) (pe_op op_add (pe_op op_mulW pe_int (pv 2)) (pe_op op_fdivW (pv 3) pe_int)))
    (pss_cons (ps_for PassesOwn.never rfl (kpi_list K (pe_dget (hu_of hr) (pv 0) pe_str (fun _ _ => rfl))) (pg_name (i := 5) nd rfl (Or.inl rfl)) (pss_one (ps_set (i := 4) nd rfl (Or.inl rfl) (pe_op op_mod (pe_callTy call_int1 rfl (by exact B.int) (by decide +kernel) (pa_cons (pe_op op_add (pe_op op_mulW (pv 4) pe_int) (pv 5)) pa_nil)) (pv 3)))))
    (pss_one (ps_set (i := 1) nd rfl (Or.inl rfl) (pe_op op_add (pe_op op_mulW (pv 1) pe_int) (pe_op op_mod (pe_callTy call_int1 rfl (by exact B.int) (by decide +kernel) (pa_cons (pe_op op_pow (pv 4) pe_int) pa_nil)) (pv 3))))))))
    (pss_one (ps_ret (pv 1)))))), ?rd⟩)
  case len => rintro S ds d ⟨rfl, _⟩; rfl
  case rd =>
    rintro W0' S lw lc cells ds P c ⟨rfl, hP⟩ hc
    have hc : c + 1 ≤ 1099511627776 := hc
    refine tr_seq (fun e c2 => e = [.dat (.raw (.ref S)), .emp, .emp, .emp, .emp, .emp] ∧ c2 = c + 1) (tr_putT (n := 0) rfl ((en_op (en_turn rfl) (ed_int (i := 1)).n (P := fun d => ∃ r : Int, d = .int r ∧ 0 ≤ r ∧ r ≤ (c + 0 + 1 : Nat)) fun d1 d2 ⟨t, e1, t0, t1⟩ e2 => ⟨.int (t + 1), by rw [e1, e2]; exact rd_add, t + 1, rfl, by omega, by omega⟩)) ⟨rfl, rfl⟩) ?_
    rintro e c2 ⟨rfl, rfl⟩
    refine tr_parN (n := 0) (ean_cons (ed_int (i := 0)).n (ean_cons (en_turn rfl) ean_nil)) ?_
    rintro l ⟨d1, ds1, rfl, rfl, d2, ds2, rfl, ⟨t, rfl, t0, t1⟩, rfl⟩
    refine ⟨_, _, rfl, ?_⟩
    refine tr_seq (fun e c2 => c2 = c + 1 ∧ ∃ found : Int, ∃ s3 s4 s5, e = [.dat (.raw (.ref S)), .dat (.int found), .dat (.int t), s3, s4, s5] ∧ 0 ≤ found) ?_ ?_
    · refine tr_for (src_list (ed_lst (ea_cons ed_int (ea_cons ed_int (ea_cons ed_int (ea_cons ed_int (ea_cons ed_int (ea_cons ed_int ea_nil)))))) (by decide))).n ?_
      rintro _ rfl
      refine ⟨fun i e c2 => c2 = c + 1 ∧ ∃ found : Int, ∃ s3 s4 s5, e = [.dat (.raw (.ref S)), .dat (.int found), .dat (.int t), s3, s4, s5] ∧ 0 ≤ found ∧ found ≤ (2 : Int) ^ (64 * i) ∧ i ≤ 6, ⟨rfl, 0, _, _, _, rfl, by omega, by decide, by omega⟩, ?_, ?_⟩
      · rintro i d e c1 hd ⟨rfl, found, s3, s4, s5, rfl, f0, f1, hi⟩
        have hil : i < 6 := (List.getElem?_eq_some_iff.mp hd).1
        obtain ⟨p, rfl, p0, p1⟩ : ∃ p : Int, d = .int p ∧ 2147483543 ≤ p ∧ p ≤ 2147483629 := by
          have hm := List.mem_of_getElem? hd
          simp only [List.mem_cons, List.mem_nil_iff, or_false] at hm
          rcases hm with rfl | rfl | rfl | rfl | rfl | rfl <;> exact ⟨_, rfl, by decide, by decide⟩
        have hy : (2 : Int) ^ (64 * (i + 1)) = 2 ^ (64 * i) * 18446744073709551616 := by
          rw [Nat.mul_succ, Int.pow_add]; rfl
        have hy1 : (1 : Int) ≤ 2 ^ (64 * i) := by
          have : (0 : Int) < 2 ^ (64 * i) := Int.pow_pos (by decide)
          omega
        have hy2 : (2 : Int) ^ (64 * i) ≤ 2 ^ 384 := by
          have : (2 : Nat) ^ (64 * i) ≤ 2 ^ 384 := Nat.pow_le_pow_right (by decide) (by omega)
          exact_mod_cast this
        have hf : found.natAbs < 2 ^ 385 := natAbs_lt f0 (Int.lt_of_le_of_lt (Int.le_trans f1 hy2) (by decide))
        refine ⟨_, tg_name, ?_⟩
        refine tr_set (d := .int (130363 * t + p / 13)) (ed_op (ed_op ed_int (ed_var rfl) (rd_mulW (wide_mul (a := 17) (b := 41) (by decide) (natAbs_lt t0 (Int.lt_of_le_of_lt (b := 1099511627777) (by omega) (by decide))) (by decide) (by decide) (by decide)))) (ed_op (ed_var rfl) ed_int (rd_divW (wide_div (b := 4) (by decide) (by decide) (by decide) (by decide)))) rd_add) ?_
        refine tr_seq (fun e c2 => c2 = c + 1 ∧ ∃ b : Int, ∃ s5, e = [.dat (.raw (.ref S)), .dat (.int found), .dat (.int t), .dat (.int p), .dat (.int b), s5] ∧ 0 ≤ b ∧ b < 18446744073709551616) ?_ ?_
        · refine tr_for (src_cells rfl).n ?_
          rintro _ rfl
          have hdiv : 0 ≤ p / 13 ∧ p / 13 ≤ p := ⟨Int.ediv_nonneg (by omega) (by decide), by omega⟩
          refine ⟨fun i e c2 => c2 = c + 1 ∧ ∃ b : Int, ∃ s5, e = [.dat (.raw (.ref S)), .dat (.int found), .dat (.int t), .dat (.int p), .dat (.int b), s5] ∧ 0 ≤ b ∧ b < 18446744073709551616, ⟨rfl, _, _, rfl, by omega, by omega⟩, ?_, fun e c h => h⟩
          rintro j d e c1 hd ⟨rfl, b, s5, rfl, b0, b1⟩
          rw [List.getElem?_map] at hd
          cases hx : cells[j]? with
          | none => rw [hx] at hd; cases hd
          | some x =>
          rw [hx] at hd
          cases hd
          refine ⟨_, tg_name, ?_⟩
          refine tr_set1 (d := .int ((b * 48271 + x) % p)) (ed_op (ed_CB (ea_cons (ed_op (ed_op (ed_var rfl) ed_int (rd_mulW (wide_mul (a := 64) (b := 16) (natAbs_lt b0 b1) (by decide) (by decide) (by decide) (by decide)))) (ed_var rfl) rd_add) ea_nil) rdl_int) (ed_var rfl) (rd_mod (by omega))) ⟨rfl, _, _, rfl, Int.emod_nonneg _ (by omega), ?_⟩
          have := Int.emod_lt_of_pos (b * 48271 + x) (show (0 : Int) < p by omega)
          omega
        · rintro e c2 ⟨rfl, b, s5, rfl, b0, b1⟩
          have h1 := Int.emod_nonneg (b ^ (5 : Int).toNat) (show p ≠ 0 by omega)
          have h2 := Int.emod_lt_of_pos (b ^ (5 : Int).toNat) (show (0 : Int) < p by omega)
          refine tr_set1 (d := .int (found * 2147483647 + b ^ (5 : Int).toNat % p)) (ed_op (ed_op (ed_var rfl) ed_int (rd_mulW (wide_mul (a := 385) (b := 31) hf (by decide) (by decide) (by decide) (by decide)))) (ed_op (ed_CB (ea_cons (ed_op (ed_var rfl) ed_int (rd_pow ⟨by decide, by decide, natAbs_lt b0 b1⟩)) ea_nil) rdl_int) (ed_var rfl) (rd_mod (by omega))) rd_add) ⟨rfl, _, _, _, _, rfl, by omega, ?_, by omega⟩
          rw [hy]
          omega
      · rintro e c1 ⟨rfl, found, s3, s4, s5, rfl, f0, _⟩
        exact ⟨rfl, _, _, _, _, rfl, f0⟩
    · rintro e c2 ⟨rfl, found, s3, s4, s5, rfl, f0⟩
      exact tr_ret (ed_var rfl) ⟨hP _ f0, by omega⟩
def fDraw (S : Addr) : List D → (D → Prop) → Prop := fun ds P => ∃ n : Int, ds = [.raw (.ref S), .int n] ∧ 0 < n ∧ n ≤ 1000000 ∧ ∀ x : Int, 0 ≤ x → x < n → P (.int x)
theorem nd_law_draw : (["_law_state", "_law_size_here", "_law_found"] : List PySem.Str).Nodup := by decide +kernel
theorem ok_law_draw (F : Df K mg "_law_draw" (top 28) ["_law_state", "_law_size_here"] cdv) (B : Bn mg) (c_law_mixed_up : Cal P w K mg base 2 "_law_mixed_up" (SpSx T 1 fMix) []) : Cal P w K mg base (2 + 1) "_law_draw" (SpSx T 1 fDraw) [] := by
  have nd := nd_law_draw
  refine calSx (N := ["_law_state", "_law_size_here", "_law_found"]) F (by decide +kernel) ?len (fun a A outer s H E hr => ⟨_, (pss_cons (ps_if (pt_cmpR (keq K hr.units) (pe_dget (hu_of hr) (pv 0) pe_str (fun _ _ => rfl)) pe_int (nomark _)) (pss_one (ps_dput (hu_of hr) (pv 0) pe_str (pe_ifExp (pt_cmpR (kne K hr.units) (pe_dget (hu_of hr) (pv 0) pe_str (fun _ _ => rfl)) (pe_lst pa_nil) (nomark _)) (pe_bm PySem.F.plainAttrs_list PySem.F.slot_list_pop PySem.F.type_list_pop mt_popAt (pe_dget (hu_of hr) (pv 0) pe_str (fun _ _ => rfl)) (pa_cons pe_int pa_nil)) (pe_c c_law_mixed_up hr (by omega) rfl (pa_cons (pv 0) pa_nil))) rfl)) pss_nil)
    (pss_cons (ps_set (i := 2) nd rfl (Or.inl rfl) (pe_op op_mod (pe_callTy call_int1 rfl (by exact B.int) (by decide +kernel) (pa_cons (pe_dget (hu_of hr) (pv 0) pe_str (fun _ _ => rfl)) pa_nil)) (pv 1)))
    (pss_cons (ps_dput (hu_of hr) (pv 0) pe_str (pe_op op_fdivW (pe_dget (hu_of hr) (pv 0) pe_str (fun _ _ => rfl)) (pv 1)) rfl)
    (pss_one (ps_ret (pv 2)))))), ?rd⟩)
  case len => rintro S ds d ⟨n, rfl, _⟩; rfl
  case rd =>
    rintro W0' S lw lc cells ds P c ⟨n, rfl, n0, n1, hP⟩ hc
    refine tr_seq (fun e c2 => e = [.dat (.raw (.ref S)), .dat (.int n), .emp] ∧ c ≤ c2 ∧ c2 ≤ c + 1) (tr_ifN (etn_test (en_op (P := fun d => ∃ b, d = .bl b ∧ True) (en_rest rfl) (ed_int (i := 0)).n fun d1 d2 ⟨r, e1, r0⟩ e2 => ⟨.bl (decide (r = 0)), by rw [e1, e2]; exact rd_eqI, _, rfl, trivial⟩)) (fun _ => ?_) (fun _ => tr_next ⟨rfl, by omega, by omega⟩)) ?_
    · exact tr_putR (n := 1) rfl (en_next rfl (en_callX (f := fMix) (ean_cons (ed_var rfl).n ean_nil) (fun ds ⟨d1, ds1, e1, e2, e3⟩ => ⟨by rw [e1, e2, e3], fun x hx => ⟨x, rfl, hx⟩⟩) (by omega))) ⟨rfl, by omega, by omega⟩
    · rintro e c2 ⟨rfl, h1, h2⟩
      refine tr_setN (n := 0) (en_op (P := fun d => ∃ x : Int, d = .int x ∧ 0 ≤ x ∧ x < n) (en_CB (P' := fun d => ∃ r : Int, d = .int r ∧ 0 ≤ r) (ean_cons (en_rest rfl) ean_nil) fun ds ⟨d1, ds1, e1, ⟨r, e2, r0⟩, e3⟩ => ⟨.int r, by rw [e1, e2, e3]; exact rdl_int, r, rfl, r0⟩) (ed_var rfl).n fun d1 d2 ⟨r, e1, r0⟩ e2 => ⟨.int (r % n), by rw [e1, e2]; exact rd_mod n0, _, rfl, Int.emod_nonneg _ (by omega), Int.emod_lt_of_pos _ n0⟩) ?_
      rintro d ⟨x, rfl, x0, x1⟩
      refine tr_seq (fun e c3 => e = [.dat (.raw (.ref S)), .dat (.int n), .dat (.int x)] ∧ c3 = c2) (tr_putR (n := 0) rfl (en_op (en_rest rfl) (ed_var rfl).n fun d1 d2 ⟨r, e1, r0⟩ e2 => ⟨.int (r / n), by rw [e1, e2]; exact rd_divW (wide_div (b := 20) n0 (by omega) (by decide) (by decide)), _, rfl, Int.ediv_nonneg r0 (by omega)⟩) ⟨rfl, rfl⟩) ?_
      rintro e c3 ⟨rfl, rfl⟩
      exact tr_ret (ed_var rfl) ⟨hP x x0 x1, by omega⟩
end
end K43


set_option Elab.async false
set_option linter.all false
set_option maxRecDepth 100000
set_option maxHeartbeats 4000000
/-! How the law's draws begin. -/
namespace K43
open PySem PySem.Spec PyProof.Rows L2 LamX C8 Fx
section
variable {P : Program} {w : World} {K : PySem.W.Frag} {mg : Str → Option Value} {base : Heap} {T : List (Addr × Str)} {cdv : Value} {c0 P0 : Addr} {W0' : Wld T} {S lw lc sa : Addr} {cells ns : List Int} {Pm : Prop}
theorem nd_law_begun : (["_law_script", "_law_wide", "_law_cell"] : List PySem.Str).Nodup := by decide +kernel
theorem ok_law_begun (F : Df K mg "_law_begun" (top 26) ["_law_script"] cdv) (B : Bn mg) : Cal P w K mg base (1 + 1) "_law_begun" (SpBegunX T K) [] := by
  have nd := nd_law_begun
  refine cal_raw (N := ["_law_script", "_law_wide", "_law_cell"]) F (by decide +kernel) ?len (fun a A outer s H E hr => ⟨_, (pss_cons (ps_setLc (i := 1) rfl nd rfl rfl (sw_true rfl rfl rfl (by decide +kernel)) (kpi_list K (pv 0)) (blkOk_by (own := [("_law_cell", 2)]) (by rfl)) (fun _ _ _ _ _ => (pg_name (i := 2) nd rfl (Or.inl rfl))) (fun _ _ _ _ _ => (pts_one (pt_cmpR op_ge (pe_callB call_abs rfl (by exact B.abs) (by decide +kernel) (pa_cons (pv 2) pa_nil)) (pe_op op_pow pe_int pe_int) (nomark _)))) (fun _ _ _ _ _ => (pe_op op_sub (pe_callB call_abs rfl (by exact B.abs) (by decide +kernel) (pa_cons (pv 2) pa_nil)) (pe_op op_pow pe_int pe_int))))
    (pss_one (ps_ret (pe_disp (pps_cons pe_str (pv 1) (pps_cons pe_str (pe_lc rfl nd (kpi_list K (pv 0)) (blkOk_by (own := [("_law_cell", 2)]) (by rfl)) (fun _ _ _ _ _ => (pg_name (i := 2) nd rfl (Or.inl rfl))) (fun _ _ _ _ _ => pts_nil) (fun _ _ _ _ _ => (pe_op op_mod (pe_callTy call_int1 rfl (by exact B.int) (by decide +kernel) (pa_cons (pe_callB call_abs rfl (by exact B.abs) (by decide +kernel) (pa_cons (pv 2) pa_nil)) pa_nil)) pe_int))) (pps_cons pe_str pe_int (pps_cons pe_str pe_int pps_nil)))) (by rfl) (by rfl) (fun z => by cases z) (by decide))))), ?rd⟩)
  case len => rintro vs H Q E ⟨_, _, _, _, rfl, _⟩; rfl
  case rd =>
    rintro vs Q ⟨sa, ns, Pm, hns, rfl, G, c, g, j, q⟩
    have A := at_start (N := ["_law_script", "_law_wide", "_law_cell"]) (ds := [.raw (.ref sa)]) g j (.cons (.raw (.ref sa)) .nil) (by simp)
    refine seq_asg (mn_lcP (T := T) (W := WS T K sa ns Pm) (fun d b => ∀ x : Int, d = .int x → b = decide ((10 : Int) ^ (18 : Int).toNat ≤ (x.natAbs : Nat))) (fun d => ∃ x : Int, d = .int x ∧ 0 ≤ x) (src_scr (i := 0) rfl) (by rw [List.length_map]; omega) (fun d hd c' => ?_) (fun d hd pt c' => ?_) _ _ _ _ _ A _ fun p xs ds G2 H2 s2 g2 j2 hp gp nf m r ⟨hl, hds⟩ => ?_)
    · obtain ⟨x, hx, rfl⟩ := List.mem_map.mp hd
      exact (et_test (ed_op (ed_CB (ea_cons (ed_var rfl) ea_nil) rdl_abs) (ed_op ed_int ed_int (rd_pow ⟨by decide, by decide, by decide⟩)) rd_ge)).n.imp (Nat.le_refl _) fun b e y ey => by cases ey; exact e
    · obtain ⟨x, hx, rfl⟩ := List.mem_map.mp hd
      refine (ed_op (ed_CB (ea_cons (ed_var rfl) ea_nil) rdl_abs) (ed_op ed_int ed_int (rd_pow ⟨by decide, by decide, by decide⟩)) rd_sub).n.imp (Nat.le_refl _) fun d e => ⟨_, e, ?_⟩
      have := of_decide_eq_true (pt x rfl).symm
      omega
    have A2 := A.setMN 1 (by simp [env0]) s2 g2 j2 hp gp nf m r
    obtain ⟨ws, rfl, hws⟩ := ints_of ds hds
    refine ret_raw (disp_draw (by rfl) hws (fun G0 H0 σ G H A Q q => ?_) A2 _ fun S lw lc cells G3 H3 s3 g3 j3 d hc n1 n2 n3 => q S lw lc ws cells G3 H3 (s2.trans s3) g3 j3 d hc n1 n2 n3)
    refine mn_lcP (T := T) (W := WS T K sa ns Pm) (fun _ _ => True) (fun d => ∃ x : Int, d = .int x ∧ 0 ≤ x) (src_scr (i := 0) rfl) (by rw [List.length_map]; omega) (fun d hd c' => et_yes.n.imp (Nat.le_refl _) fun _ _ => trivial) (fun d hd _ c' => ?_) _ _ _ _ _ A Q fun p xs ds G2 H2 s2 g2 j2 hp gp nf m r ⟨hl, hds⟩ => q p xs ds G2 H2 s2 g2 j2 hp gp nf m r (ints_of ds hds)
    obtain ⟨x, hx, rfl⟩ := List.mem_map.mp hd
    exact (ed_op (ed_CB (ea_cons (ed_CB (ea_cons (ed_var rfl) ea_nil) rdl_abs) ea_nil) rdl_int) ed_int (rd_mod (by decide))).n.imp (Nat.le_refl _) fun d e => ⟨_, e, Int.emod_nonneg _ (by decide)⟩
end
end K43


set_option Elab.async false
set_option linter.all false
set_option maxRecDepth 100000
set_option maxHeartbeats 4000000
/-! The law's own helpers that do not draw. -/
namespace K43
open PySem PySem.Spec PyProof.Rows L2 LamX C8 Fx
section
variable {P : Program} {w : World} {K : PySem.W.Frag} {mg : Str → Option Value} {base : Heap} {T : List (Addr × Str)} {cdv : Value} {c0 P0 : Addr} {W0' : Wld T} {S lw lc a : Addr} {cells ns : List Int} {Pm : Prop}
def tauF (lots : List (List Int)) : Nat := ((List.range 17).find? fun n => canHit lots 0 n []).getD 0
def leastF (many : Int) (lots : List (List Int)) : List Int := (leastOf many lots (tauF lots) []).getD []
/-- lots, none of them empty -/
def Lots (many : Int) (lots : List (List Int)) : Prop := LotsOk many lots ∧ [] ∉ lots
/-- the package's answers are there (the mathematics) -/
def HasLeast : Prop := ∀ many lots, Lots many lots → IsLeast many lots (leastF many lots)
abbrev dP (p : Int × Int) : D := dI [p.1, p.2]
def fSize : List D → D → Prop := fun ds d => ∃ many lots, ds = [.int many, dLL lots] ∧ Lots many lots ∧ d = .int ((leastF many lots).length : Nat)
theorem nd_law_size : (["_law_many_here", "_law_lots"] : List PySem.Str).Nodup := by decide +kernel
theorem ok_law_size (HL : HasLeast) (F : Df K mg "_law_size" (top 30) ["_law_many_here", "_law_lots"] cdv) (B : Bn mg) (c_least_hits : Cal P w K mg base 26 "least_hits" (SpD T fLeast) []) : Cal P w K mg base (26 + 1) "_law_size" (SpD T fSize) [] := by
  have nd := nd_law_size
  refine calD (N := ["_law_many_here", "_law_lots"]) F (by decide +kernel) ?len (fun a A outer s H E hr => ⟨_, (pss_one (ps_ret (pe_callB (klen K) rfl (by exact B.len) (by decide +kernel) (pa_cons (pe_c c_least_hits hr (by omega) rfl (pa_cons (pv 0) (pa_cons (pv 1) pa_nil))) pa_nil)))), ?rd⟩)
  case len => rintro ds d ⟨many, lots, rfl, _⟩; rfl
  case rd =>
    rintro ds d ⟨many, lots, rfl, ok, rfl⟩
    exact tr_ret (ed_CB (ea_cons (ed_call (f := fLeast) (ea_cons (ed_var rfl) (ea_cons (ed_var rfl) ea_nil)) ⟨many, lots, rfl, ok.1, .inr ⟨ok.2, _, HL _ _ ok, rfl⟩⟩) ea_nil) rdl_lenT) (by rw [List.length_map])
def fLiesIn : List D → D → Prop := fun ds d => ∃ one two : List Int, ds = [dI one, dI two] ∧ one.length ≤ 10000 ∧ d = .bl (one.all fun g => decide (g ∈ two))
theorem nd_law_lies_in : (["_law_one", "_law_two", "_law_gap"] : List PySem.Str).Nodup := by decide +kernel
theorem ok_law_lies_in (F : Df K mg "_law_lies_in" (top 36) ["_law_one", "_law_two"] cdv) (B : Bn mg) : Cal P w K mg base (1 + 1) "_law_lies_in" (SpD T fLiesIn) [] := by
  have nd := nd_law_lies_in
  refine calD (N := ["_law_one", "_law_two", "_law_gap"]) F (by decide +kernel) ?len (fun a A outer s H E hr => ⟨_, (pss_one (ps_ret (pe_cmpR (keq K hr.units) (pe_lc rfl nd (kpi_tup K (pv 0)) (blkOk_by (own := [("_law_gap", 2)]) (by rfl)) (fun _ _ _ _ _ => (pg_name (i := 2) nd rfl (Or.inl rfl))) (fun _ _ _ _ _ => (pts_one (pt_cmpR (knin K) (pv 2) (pv 1) (by rfl)))) (fun _ _ _ _ _ => (pv 2))) (pe_lst pa_nil) (nomark _)))), ?rd⟩)
  case len => rintro ds d ⟨one, two, rfl, _⟩; rfl
  case rd =>
    rintro ds d ⟨one, two, rfl, hz, rfl⟩
    refine tr_ret (d := .bl (one.all fun g => decide (g ∈ two))) ((ed_op (ed_lc1 one .int (fun g => !decide (g ∈ two)) .int (src_tup (ed_var rfl)) (by omega) (fun g _ => et_test (ed_op (ed_var rfl) (ed_var rfl) (rd_inT (neg := true)))) fun g _ _ => ed_var rfl) (ed_lst ea_nil (by decide)) (rd_eqD ok_dLI ok_dLI (a := dLI _) (b := dLI []) (n := 1) (m := 1))).eq ?_) rfl
    rw [eqv_dLI]
    congr 1
    rw [Bool.eq_iff_iff]
    simp
def arcF (many one two : Int) : List Int := isI (if one ≤ two then rgD one (two + 1) else rgD one many ++ rgD 0 (two + 1))
def fArc : List D → D → Prop := fun ds d => ∃ many : Int, ∃ p : Int × Int, ds = [.int many, dP p] ∧ (0 ≤ p.1 ∧ p.1 < many ∧ 0 ≤ p.2 ∧ p.2 < many ∧ many ≤ 100) ∧ d = dI (arcF many p.1 p.2)
theorem nd_law_arc_lot : (["_law_many_here", "_law_pair", "_law_one", "_law_two", "_law_inside"] : List PySem.Str).Nodup := by decide +kernel
theorem ok_law_arc_lot (F : Df K mg "_law_arc_lot" (top 32) ["_law_many_here", "_law_pair"] cdv) (B : Bn mg) : Cal P w K mg base (1 + 1) "_law_arc_lot" (SpD T fArc) [] := by
  have nd := nd_law_arc_lot
  refine calD (N := ["_law_many_here", "_law_pair", "_law_one", "_law_two", "_law_inside"]) F (by decide +kernel) ?len (fun a A outer s H E hr => ⟨_, (pss_cons (ps_asg (pv 1) (pg_tup rfl (pgs_cons (pg_name (i := 2) nd rfl (Or.inl rfl)) (pgs_cons (pg_name (i := 3) nd rfl (Or.inl rfl)) pgs_nil))))
    (pss_cons (ps_set (i := 4) nd rfl (Or.inl rfl) (pe_ifExp (pt_cmpR op_le (pv 2) (pv 3) (nomark _)) (pe_listRg rfl rfl (by exact B.list) (prg_2 rfl (by exact B.range) (pv 2) (pe_op op_add (pv 3) pe_int))) (pe_op op_cat (pe_listRg rfl rfl (by exact B.list) (prg_2 rfl (by exact B.range) (pv 2) (pv 0))) (pe_listRg rfl rfl (by exact B.list) (prg_1 rfl (by exact B.range) (pe_op op_add (pv 3) pe_int))))))
    (pss_one (ps_ret (pe_callTy (ktuple K) rfl (by exact B.tuple) (by decide +kernel) (pa_cons (pe_callB (ksort K) rfl (by exact B.sorted) (by decide +kernel) (pa_cons (pv 4) pa_nil)) pa_nil)))))), ?rd⟩)
  case len => rintro ds d ⟨one, two, rfl, _⟩; rfl
  case rd =>
    rintro ds d ⟨many, p, rfl, ⟨h1, h2, h3, h4, h5⟩, rfl⟩
    refine tr_tg (ed_var rfl) tg_tup2 ?_
    refine tr_set (d := dLI (if p.1 ≤ p.2 then rgD p.1 (p.2 + 1) else rgD p.1 many ++ rgD 0 (p.2 + 1))) (ed_if (et_test (ed_op (ed_var rfl) (ed_var rfl) rd_le)) (fun h => ?_) fun h => ?_) ?_
    · rw [if_pos (of_decide_eq_true h)]
      exact ed_listRg2 (ed_var rfl) (ed_op (ed_var rfl) ed_int rd_add) (by omega)
    · rw [if_neg (of_decide_eq_false h)]
      refine (ed_op (ed_listRg2 (ed_var rfl) (ed_var rfl) (by omega)) (ed_listRg1 (ed_op (ed_var rfl) ed_int rd_add) (by omega)) (rd_cat ?_)).eq (by rw [← List.map_append])
      unfold rgD
      simp only [List.length_map, List.length_range]
      omega
    · exact tr_ret (ed_CB (ea_cons (ed_CB (ea_cons (ed_var rfl) ea_nil) rdl_sortI) ea_nil) rdl_tupL) rfl
/-- stretches that are apart, by the row of their ends -/
def stretchF : List (Int × Int) → Int → List (Int × Int)
  | [], _ => []
  | p :: r, last => if last < p.1 then p :: stretchF r p.2 else stretchF r last
def byEnd (ps : List (Int × Int)) : List (Int × Int) := isort (fun p q => decide (p.2 < q.2)) ps
def fStretch : List D → D → Prop := fun ds d => ∃ ps : List (Int × Int), ds = [.lst (ps.map dP)] ∧ ps.length ≤ 10000 ∧ d = .tup [.int ((stretchF (byEnd ps) (-1)).length : Nat), .lst ((stretchF (byEnd ps) (-1)).map dP)]
theorem nd_law_stretch_size : (["_law_pairs", "_law_found", "_law_last", "_law_pair"] : List PySem.Str).Nodup := by decide +kernel
theorem ok_law_stretch_size (F : Df K mg "_law_stretch_size" (top 31) ["_law_pairs"] (.ref c0)) (TB : TabB base mg c0 P0) (hT : (P0, ("_law_stretch_size.<locals>.<lambda>" : Str)) ∈ T) (hu1 : ∀ p ∈ T, p.1 = P0 → p.2 = ("_law_stretch_size.<locals>.<lambda>" : Str)) (B : Bn mg) : Cal P w K mg base (6 + 1) "_law_stretch_size" (SpD T fStretch) [] := by
  have nd := nd_law_stretch_size
  refine calD (N := ["_law_pairs", "_law_found", "_law_last", "_law_pair"]) F (by decide +kernel) ?len (fun a A outer s H E hr => ⟨_, (pss_cons (ps_par (i := 1) (j := 2) rfl nd rfl rfl (by decide) rfl rfl (pa_cons (pe_lst pa_nil) (pa_cons (pe_un un_neg pe_int) pa_nil)) (by rfl))
    (pss_cons (ps_for PassesOwn.never rfl (kpi_list K (pe_sortK (j := 3) (T := T) (k := 1) (keyInt _) keySort_int rfl rfl (by exact B.sorted) (pv 0) TB rfl hT hu1 (hr.mono (by decide)) (lamS1_by (by rfl)) nd rfl rfl (fun _ _ _ _ _ _ => rfl) (fun _ _ _ _ hr => (pe_ix (kix K) (pv 3) pe_int (fun _ _ => rfl))))) (pg_name (i := 3) nd rfl (Or.inl rfl)) (pss_one (ps_if (pt_cmpR op_gt (pe_ix (kix K) (pv 3) pe_int (fun _ _ => rfl)) (pv 2) (nomark _)) (pss_cons (ps_expr (pe_bm PySem.F.plainAttrs_list PySem.F.slot_list_append PySem.F.type_list_append mt_append (pv 1) (pa_cons (pv 3) pa_nil)))
    (pss_one (ps_set (i := 2) nd rfl (Or.inl rfl) (pe_ix (kix K) (pv 3) pe_int (fun _ _ => rfl))))) pss_nil)))
    (pss_one (ps_ret (pe_tup (pa_cons (pe_callB (klen K) rfl (by exact B.len) (by decide +kernel) (pa_cons (pv 1) pa_nil)) (pa_cons (pv 1) pa_nil))))))), ?rd⟩)
  case len => rintro ds d ⟨ps, rfl, _⟩; rfl
  case rd =>
    rintro ds d ⟨ps, rfl, hz, rfl⟩
    refine tr_par_new (by simp [env0]) (by decide) (d := .int (-1)) (ed_un ed_int rd1_neg) (fun _ _ _ _ h => h) ?_
    have hb : (byEnd ps).length = ps.length := (isort_perm _ _).length_eq
    refine tr_seq (fun e c => ∃ s3, ∃ lst : Int, e = [.dat (.lst (ps.map dP)), .mu ((stretchF (byEnd ps) (-1)).map dP), .dat (.int lst), s3]) ?_ ?_
    · refine tr_for (src_list ((ed_sortK (KO := keyInt _) keyD_int (kf := fun i => (ps.getD i (0, 0)).2) (ed_var rfl) fun i d hd => ?_).eq (d' := .lst ((byEnd ps).map dP)) (congrArg D.lst (sortD_map (fun p => p.2) dP ps fun i x hx => by show (ps.getD i (0, 0)).2 = x.2; rw [List.getD_eq_getElem?_getD, hx]; rfl)))).n ?_
      · rw [List.getElem?_map] at hd
        cases h : ps[i]? with
        | none => rw [h] at hd; cases hd
        | some p =>
        rw [h] at hd
        cases hd
        have e : ps.getD i (0, 0) = p := by rw [List.getD_eq_getElem?_getD, h]; rfl
        show ED _ _ _ (.int (ps.getD i (0, 0)).2)
        rw [e]
        exact ed_op (ed_var rfl) ed_int (rd_ixT (i := 1) rfl)
      · rintro _ rfl
        refine ⟨fun i e c => ∃ s3, ∃ (fd : List (Int × Int)) (lst : Int), e = [.dat (.lst (ps.map dP)), .mu (fd.map dP), .dat (.int lst), s3] ∧ fd.length ≤ i ∧ i ≤ ps.length ∧ fd ++ stretchF ((byEnd ps).drop i) lst = stretchF (byEnd ps) (-1), ⟨.emp, [], -1, rfl, Nat.le_refl _, Nat.zero_le _, rfl⟩, ?_, ?_⟩
        · rintro i d e c1 hd ⟨s3, fd, lst, rfl, hf, hi, hs⟩
          rw [List.getElem?_map] at hd
          cases h : (byEnd ps)[i]? with
          | none => rw [h] at hd; cases hd
          | some p =>
          rw [h] at hd
          cases hd
          obtain ⟨hil, hge⟩ := List.getElem?_eq_some_iff.mp h
          have hdr : (byEnd ps).drop i = p :: (byEnd ps).drop (i + 1) := by rw [List.drop_eq_getElem_cons hil, hge]
          rw [hdr] at hs
          refine ⟨_, tg_name, tr_if (et_test (ed_op (ed_op (ed_var rfl) ed_int (rd_ixT (i := 0) rfl)) (ed_var rfl) rd_gt)) (fun c => ?_) fun c => ?_⟩
          · refine tr_app rfl (by rw [List.length_map]; omega) (ed_var rfl) ?_
            refine tr_set1 (d := .int p.2) (ed_op (ed_var rfl) ed_int (rd_ixT (i := 1) rfl)) ⟨_, fd ++ [p], p.2, by rw [List.map_append]; rfl, by simp; omega, by omega, ?_⟩
            rw [stretchF, if_pos (of_decide_eq_true c)] at hs
            rw [List.append_assoc]
            exact hs
          · refine tr_next ⟨_, fd, lst, rfl, by omega, by omega, ?_⟩
            rw [stretchF, if_neg (of_decide_eq_false c)] at hs
            exact hs
        · rintro e c1 ⟨s3, fd, lst, rfl, hf, hi, hs⟩
          rw [List.drop_eq_nil_of_le (by rw [List.length_map]; exact Nat.le_refl _), stretchF, List.append_nil] at hs
          rw [hs]
          exact ⟨_, _, rfl⟩
    · rintro e c ⟨s3, lst, rfl⟩
      refine tr_frz (i := 1) rfl ?_
      exact tr_ret (ed_tup (ea_cons (ed_CB (ea_cons (ed_var rfl) ea_nil) rdl_len) (ea_cons (ed_var rfl) ea_nil)) (by simp)) (by rw [List.length_map])
def cutP (many : Int) (g : Int) (p : Int × Int) : Int × Int := ((p.1 + many - g) % many, (p.2 + many - g) % many)
def cutL (many : Int) (ps : List (Int × Int)) (g : Int) : List (Int × Int) := (ps.filter fun p => !decide (g ∈ arcF many p.1 p.2)).map (cutP many g)
def cutF (many : Int) (ps : List (Int × Int)) (g : Int) : Nat := 1 + (stretchF (byEnd (cutL many ps g)) (-1)).length
def PairsOk (many : Int) (ps : List (Int × Int)) : Prop := (4 ≤ many ∧ many ≤ 12) ∧ ps.length ≤ 8 ∧ ∀ p ∈ ps, 0 ≤ p.1 ∧ p.1 < many ∧ 0 ≤ p.2 ∧ p.2 < many
def fCut : List D → D → Prop := fun ds d => ∃ many : Int, ∃ (ps : List (Int × Int)) (g : Int), ds = [.int many, .lst (ps.map dP), .int g] ∧ PairsOk many ps ∧ d = .int (cutF many ps g : Nat)
theorem nd_law_cut_size : (["_law_many_here", "_law_pairs", "_law_gap", "_law_found", "_law_one", "_law_two", "_law_low"] : List PySem.Str).Nodup := by decide +kernel
theorem ok_law_cut_size (F : Df K mg "_law_cut_size" (top 33) ["_law_many_here", "_law_pairs", "_law_gap"] cdv) (B : Bn mg) (c_law_arc_lot : Cal P w K mg base 2 "_law_arc_lot" (SpD T fArc) []) (c_law_stretch_size : Cal P w K mg base 7 "_law_stretch_size" (SpD T fStretch) []) : Cal P w K mg base (7 + 1) "_law_cut_size" (SpD T fCut) [] := by
  have nd := nd_law_cut_size
  refine calD (N := ["_law_many_here", "_law_pairs", "_law_gap", "_law_found", "_law_one", "_law_two", "_law_low"]) F (by decide +kernel) ?len (fun a A outer s H E hr => ⟨_, (pss_cons (ps_set (i := 3) nd rfl (Or.inl rfl) (pe_lst pa_nil))
    (pss_cons (ps_for PassesOwn.never rfl (kpi_list K (pv 1)) (pg_tup rfl (pgs_cons (pg_name (i := 4) nd rfl (Or.inl rfl)) (pgs_cons (pg_name (i := 5) nd rfl (Or.inl rfl)) pgs_nil))) (pss_one (ps_if (pt_cmpR (knin K) (pv 2) (pe_c c_law_arc_lot hr (by omega) rfl (pa_cons (pv 0) (pa_cons (pe_tup (pa_cons (pv 4) (pa_cons (pv 5) pa_nil))) pa_nil))) (by rfl)) (pss_cons (ps_set (i := 6) nd rfl (Or.inl rfl) (pe_op op_mod (pe_callTy call_int1 rfl (by exact B.int) (by decide +kernel) (pa_cons (pe_op op_sub (pe_op op_add (pv 4) (pv 0)) (pv 2)) pa_nil)) (pv 0)))
    (pss_one (ps_expr (pe_bm PySem.F.plainAttrs_list PySem.F.slot_list_append PySem.F.type_list_append mt_append (pv 3) (pa_cons (pe_tup (pa_cons (pv 6) (pa_cons (pe_op op_mod (pe_callTy call_int1 rfl (by exact B.int) (by decide +kernel) (pa_cons (pe_op op_sub (pe_op op_add (pv 5) (pv 0)) (pv 2)) pa_nil)) (pv 0)) pa_nil))) pa_nil))))) pss_nil)))
    (pss_one (ps_ret (pe_op op_add pe_int (pe_ix (kix K) (pe_c c_law_stretch_size hr (by omega) rfl (pa_cons (pv 3) pa_nil)) pe_int (fun _ _ => rfl))))))), ?rd⟩)
  case len => rintro ds d ⟨many, ps, g, rfl, _⟩; rfl
  case rd =>
    rintro ds d ⟨many, ps, g, rfl, hp, rfl⟩
    have hm := hp.1
    refine tr_new (by simp [env0]) ?_
    refine tr_seq (fun e c => ∃ s4 s5 s6, e = [.dat (.int many), .dat (.lst (ps.map dP)), .dat (.int g), .mu ((cutL many ps g).map dP), s4, s5, s6]) ?_ ?_
    · refine tr_for (src_list (ed_var rfl)).n ?_
      rintro _ rfl
      refine ⟨fun i e c => i ≤ ps.length ∧ ∃ s4 s5 s6, e = [.dat (.int many), .dat (.lst (ps.map dP)), .dat (.int g), .mu ((cutL many (ps.take i) g).map dP), s4, s5, s6], ⟨Nat.zero_le _, _, _, _, rfl⟩, ?_, ?_⟩
      · rintro i d e c1 hd ⟨hi, s4, s5, s6, rfl⟩
        rw [List.getElem?_map] at hd
        cases h : ps[i]? with
        | none => rw [h] at hd; cases hd
        | some p =>
        rw [h] at hd
        cases hd
        obtain ⟨hil, hge⟩ := List.getElem?_eq_some_iff.mp h
        have hpp := hp.2.2 p (List.mem_of_getElem? h)
        have htk : ps.take (i + 1) = ps.take i ++ [p] := by rw [List.take_succ_eq_append_getElem hil, hge]
        have hcl : cutL many (ps.take (i + 1)) g = cutL many (ps.take i) g ++ cutL many [p] g := by unfold cutL; rw [htk, List.filter_append, List.map_append]
        have hlen : (cutL many (ps.take i) g).length ≤ i := by unfold cutL; rw [List.length_map]; exact Nat.le_trans (List.length_filter_le _ _) (by rw [List.length_take]; omega)
        have hmod : (0 : Int) < many := by omega
        refine ⟨_, tg_tup2, tr_if (et_test (ed_op (ed_var rfl) (ed_call (f := fArc) (ea_cons (ed_var rfl) (ea_cons (ed_tup (ea_cons (ed_var rfl) (ea_cons (ed_var rfl) ea_nil)) (by simp)) ea_nil)) ⟨many, p, rfl, by omega, rfl⟩) (rd_inT (neg := true)))) (fun c => ?_) fun c => ?_⟩
        · refine tr_set (d := .int ((p.1 + many - g) % many)) (ed_op (ed_CB (ea_cons (ed_op (ed_op (ed_var rfl) (ed_var rfl) rd_add) (ed_var rfl) rd_sub) ea_nil) rdl_int) (ed_var rfl) (rd_mod hmod)) ?_
          refine tr_app1 (d := dP (cutP many g p)) rfl (by rw [List.length_map]; have := hp.2.1; omega) (ed_tup (ea_cons (ed_var rfl) (ea_cons (ed_op (ed_CB (ea_cons (ed_op (ed_op (ed_var rfl) (ed_var rfl) rd_add) (ed_var rfl) rd_sub) ea_nil) rdl_int) (ed_var rfl) (rd_mod hmod)) ea_nil)) (by simp)) ⟨by omega, .dat (.int p.1), .dat (.int p.2), .dat (.int ((p.1 + many - g) % many)), ?_⟩
          have e1 : cutL many [p] g = [cutP many g p] := by
            unfold cutL
            rw [List.filter_cons, if_pos (by simpa using c)]
            rfl
          rw [hcl, e1, List.map_append]
          rfl
        · refine tr_next ⟨by omega, .dat (.int p.1), .dat (.int p.2), s6, ?_⟩
          have e1 : cutL many [p] g = [] := by
            unfold cutL
            rw [List.filter_cons, if_neg (by simpa using c)]
            rfl
          rw [hcl, e1, List.append_nil]
          rfl
      · rintro e c1 ⟨hi, s4, s5, s6, rfl⟩
        rw [List.length_map, List.take_length]
        exact ⟨_, _, _, rfl⟩
    · rintro e c ⟨s4, s5, s6, rfl⟩
      refine tr_frz (i := 3) rfl ?_
      have hlen : (cutL many ps g).length ≤ 10000 := by unfold cutL; rw [List.length_map]; exact Nat.le_trans (List.length_filter_le _ _) (by have := hp.2.1; omega)
      refine tr_ret (d := .int (cutF many ps g : Nat)) ((ed_op ed_int (ed_op (ed_call (f := fStretch) (ea_cons (ed_var rfl) ea_nil) ⟨cutL many ps g, rfl, hlen, rfl⟩) ed_int (rd_ixT (i := 0) rfl)) rd_add).eq ?_) rfl
      unfold cutF
      congr 1
end
end K43


set_option Elab.async false
set_option linter.all false
set_option maxRecDepth 100000
set_option maxHeartbeats 4000000
/-! The law's own defs that draw. -/
namespace K43
open PySem PySem.Spec PyProof.Rows L2 LamX C8 Fx
section
variable {P : Program} {w : World} {K : PySem.W.Frag} {mg : Str → Option Value} {base : Heap} {T : List (Addr × Str)} {cdv : Value} {c0 P0 : Addr} {W0' : Wld T} {S lw lc a : Addr} {cells ns : List Int} {Pm : Prop}
/-- a draw -/
theorem en_draw {E : XK} {env : Env'} {i c : Nat} {n : Int} {tn : TE} (h : env[i]? = some (.dat (.raw (.ref S)))) (hn : ED (WDr W0' S lw lc cells) tn env (.int n)) (h0 : 0 < n) (h1 : n ≤ 1000000) (hc : c + 1 ≤ CAP) :
    EN (WDr W0' S lw lc cells) (tCall (SpSx T 1 fDraw) [] E (tCons (tVar i) (tCons tn tNil))) env c 1 (fun d => ∃ x : Int, d = .int x ∧ 0 ≤ x ∧ x < n) :=
  en_callX (n := 0) (f := fDraw) (ean_cons (ed_var h).n (ean_cons hn.n ean_nil)) (fun ds ⟨d1, ds1, e1, e2, d2, ds2, e3, e4, e5⟩ => ⟨n, by rw [e1, e2, e3, e4, e5], h0, h1, fun x x0 x1 => ⟨x, rfl, x0, x1⟩⟩) hc
theorem cap_le {c m : Nat} (h : c ≤ m) (hm : m ≤ CAP) : c ≤ CAP := Nat.le_trans h hm
/-- a lot as it is drawn -/
def Asc (many : Int) (l : List Int) : Prop := l.Pairwise (· < ·) ∧ ∀ g ∈ l, 0 ≤ g ∧ g < many
theorem rgD_mem {a b g : Int} : g ∈ rgD a b ↔ a ≤ g ∧ g < b := by
  unfold rgD
  rw [List.mem_map]
  constructor
  · rintro ⟨i, hi, rfl⟩
    have := List.mem_range.mp hi
    omega
  · rintro ⟨h1, h2⟩
    exact ⟨(g - a).toNat, List.mem_range.mpr (by omega), by omega⟩
theorem rgD_asc {a b : Int} : (rgD a b).Pairwise (· < ·) := by
  unfold rgD
  refine List.pairwise_map.mpr (List.pairwise_lt_range.imp fun h => by omega)
theorem asc_sub {many : Int} {l : List Int} (h : l.Sublist (rgD 0 many)) : Asc many l := ⟨List.Pairwise.sublist h rgD_asc, fun g hg => rgD_mem.mp (h.subset hg)⟩
theorem asc_len {many : Int} {l : List Int} (h : Asc many l) (hm : 0 ≤ many) : (l.length : Int) ≤ many := by
  obtain ⟨h1, h2⟩ := h
  have : ∀ (l : List Int) (a : Int), l.Pairwise (· < ·) → (∀ g ∈ l, a ≤ g ∧ g < many) → a ≤ many → (l.length : Int) ≤ many - a := by
    intro l
    induction l with
    | nil => intro a _ _ h; simp; omega
    | cons x r ih =>
      intro a hp hg ha
      have h3 := hg x List.mem_cons_self
      have := ih (x + 1) (List.pairwise_cons.mp hp).2 (fun g hg' => ⟨by have := (List.pairwise_cons.mp hp).1 g hg'; omega, (hg g (List.mem_cons_of_mem _ hg')).2⟩) (by omega)
      simp
      omega
  have := this l 0 h1 h2 hm
  omega
def fDrawn (S : Addr) : List D → (D → Prop) → Prop := fun ds P => ∃ many : Int, ds = [.raw (.ref S), .int many] ∧ 1 ≤ many ∧ many ≤ 12 ∧ ∀ lots : List (List Int), lots.length ≤ 7 → (∀ l ∈ lots, Asc many l) → P (dLL lots)
theorem nd_law_drawn_lots : (["_law_state", "_law_many_here", "_law_found", "_law_turn", "_law_one", "_law_two", "_law_way", "_law_lot", "_law_gap"] : List PySem.Str).Nodup := by decide +kernel
theorem ok_law_drawn_lots (F : Df K mg "_law_drawn_lots" (top 29) ["_law_state", "_law_many_here"] cdv) (B : Bn mg) (c_law_draw : Cal P w K mg base 3 "_law_draw" (SpSx T 1 fDraw) []) : Cal P w K mg base (3 + 1) "_law_drawn_lots" (SpSx T 200 fDrawn) [] := by
  have nd := nd_law_drawn_lots
  refine calSx (N := ["_law_state", "_law_many_here", "_law_found", "_law_turn", "_law_one", "_law_two", "_law_way", "_law_lot", "_law_gap"]) F (by decide +kernel) ?len (fun a A outer s H E hr => ⟨_, (pss_cons (ps_set (i := 2) nd rfl (Or.inl rfl) (pe_lst pa_nil))
    (pss_cons (ps_for PassesOwn.never rfl (pi_range1 rfl (by exact B.range) (pa_cons (pe_c c_law_draw hr (by omega) rfl (pa_cons (pv 0) (pa_cons pe_int pa_nil))) pa_nil)) (pg_name (i := 3) nd rfl (Or.inl rfl)) (pss_cons (ps_asg (pe_tup (pa_cons (pe_c c_law_draw hr (by omega) rfl (pa_cons (pv 0) (pa_cons (pv 1) pa_nil))) (pa_cons (pe_c c_law_draw hr (by omega) rfl (pa_cons (pv 0) (pa_cons (pv 1) pa_nil))) (pa_cons (pe_c c_law_draw hr (by omega) rfl (pa_cons (pv 0) (pa_cons pe_int pa_nil))) pa_nil)))) (pg_tup rfl (pgs_cons (pg_name (i := 4) nd rfl (Or.inr rfl)) (pgs_cons (pg_name (i := 5) nd rfl (Or.inr rfl)) (pgs_cons (pg_name (i := 6) nd rfl (Or.inl rfl)) pgs_nil)))))
    (pss_cons (ps_setLc (i := 7) rfl nd rfl rfl (sw_true rfl rfl rfl (by decide +kernel)) (pi_range1 rfl (by exact B.range) (pa_cons (pv 1) pa_nil)) (blkOk_by (own := [("_law_gap", 8)]) (by rfl)) (fun _ _ _ _ _ => (pg_name (i := 8) nd rfl (Or.inl rfl))) (fun _ _ _ _ _ => (pts_one (pt_cmpR (keq K hr.units) (pe_c c_law_draw hr (by omega) rfl (pa_cons (pv 0) (pa_cons pe_int pa_nil))) pe_int (nomark _)))) (fun _ _ _ _ _ => (pv 8)))
    (pss_cons (ps_if (pt_cmpR (keq K hr.units) (pv 6) pe_int (nomark _)) (pss_one (ps_set (i := 7) nd rfl (Or.inl rfl) (pe_listRg rfl rfl (by exact B.list) (prg_2 rfl (by exact B.range) (pe_callB (call_min2 rfl) rfl (by exact B.min) (by decide +kernel) (pa_cons (pv 4) (pa_cons (pv 5) pa_nil))) (pe_op op_add (pe_callB (call_max2 rfl) rfl (by exact B.max) (by decide +kernel) (pa_cons (pv 4) (pa_cons (pv 5) pa_nil))) pe_int))))) (pss_one (ps_if (pt_cmpR (keq K hr.units) (pv 6) pe_int (nomark _)) (pss_one (ps_setLc (i := 7) rfl nd rfl rfl (sw_true rfl rfl rfl (by decide +kernel)) (pi_range1 rfl (by exact B.range) (pa_cons (pv 1) pa_nil)) (blkOk_by (own := [("_law_gap", 8)]) (by rfl)) (fun _ _ _ _ _ => (pg_name (i := 8) nd rfl (Or.inl rfl))) (fun _ _ _ _ _ => (pts_one (PW.pt (pw_or (pt_cmpR op_ge (pv 8) (pv 4) (nomark _)) (pw_or1 (pt_cmpR op_le (pv 8) (pv 5) (nomark _))))))) (fun _ _ _ _ _ => (pv 8)))) pss_nil)))
    (pss_one (ps_expr (pe_bm PySem.F.plainAttrs_list PySem.F.slot_list_append PySem.F.type_list_append mt_append (pv 2) (pa_cons (pe_callTy (ktuple K) rfl (by exact B.tuple) (by decide +kernel) (pa_cons (pe_ifExp (PW.pt (pw_or (pt_cmpR (kne K hr.units) (pv 7) (pe_lst pa_nil) (nomark _)) (pw_or1 (pt_cmpR (keq K hr.units) (pe_c c_law_draw hr (by omega) rfl (pa_cons (pv 0) (pa_cons pe_int pa_nil))) pe_int (nomark _))))) (pv 7) (pe_lst (pa_cons (pv 4) pa_nil))) pa_nil)) pa_nil))))))))
    (pss_one (ps_ret (pv 2))))), ?rd⟩)
  case len => rintro S ds d ⟨n, rfl, _⟩; rfl
  case rd =>
    rintro W0' S lw lc cells ds P c ⟨many, rfl, m0, m1, hP⟩ hc
    have hc : c + 200 ≤ 1099511627776 := hc
    refine tr_new (by simp [env0]) ?_
    refine tr_seq (fun e c2 => c2 ≤ c + 200 ∧ ∃ lots : List (List Int), lots.length ≤ 7 ∧ (∀ l ∈ lots, Asc many l) ∧ ∃ s3 s4 s5 s6 s7 s8, e = [.dat (.raw (.ref S)), .dat (.int many), .mu (lots.map dI), s3, s4, s5, s6, s7, s8]) ?_ ?_
    · refine tr_for (srcN_range1 (c := c) (P := fun x => 0 ≤ x ∧ x < 8) (k := 1) (EAN.imp1 (ean_cons (en_draw (n := 8) rfl ed_int (by decide) (by decide) (show c + 1 ≤ 1099511627776 by omega)) ean_nil) fun ds ⟨d1, ds1, e1, ⟨x, e2, h⟩, e3⟩ => ⟨x, by rw [e1, e2, e3], h⟩) fun n h => by omega) ?_
      rintro _ ⟨n, hn, rfl⟩
      refine ⟨fun i e c2 => i ≤ 7 ∧ c2 ≤ c + 1 + 16 * i ∧ ∃ lots : List (List Int), lots.length ≤ i ∧ (∀ l ∈ lots, Asc many l) ∧ ∃ s3 s4 s5 s6 s7 s8, e = [.dat (.raw (.ref S)), .dat (.int many), .mu (lots.map dI), s3, s4, s5, s6, s7, s8], ⟨by omega, by omega, [], Nat.le_refl _, (fun l h => by cases h), _, _, _, _, _, _, rfl⟩, ?_, ?_⟩
      · rintro i d e c1 hd ⟨hi, hc1, lots, hl, hlot, s3, s4, s5, s6, s7, s8, rfl⟩
        have hil : i < n.toNat := by
          have := (List.getElem?_eq_some_iff.mp hd).1
          rwa [List.length_map, List.length_range] at this
        refine ⟨_, tg_name, ?_⟩
        have hn7 : n.toNat ≤ 7 := by omega
        have hrg : (List.map (fun (i : Nat) => D.int (i : Int)) (List.range many.toNat)) = (rgD 0 many).map .int := by
          unfold rgD
          rw [List.map_map, Int.sub_zero]
          refine List.map_congr_left fun i _ => ?_
          show D.int (i : Int) = D.int (0 + (i : Int))
          rw [Int.zero_add]
        have hrl : (rgD 0 many).length = many.toNat := by unfold rgD; rw [List.length_map, List.length_range, Int.sub_zero]
        refine tr_tgN (n := 3) (P := fun d => ∃ one two way : Int, d = .tup [.int one, .int two, .int way] ∧ (0 ≤ one ∧ one < many) ∧ (0 ≤ two ∧ two < many)) ?_ ?_
        · refine EN.imp (k := 1 + (1 + (1 + 0))) (en_tup (ean_cons (en_draw (n := many) rfl (ed_var rfl) (by omega) (by omega) (by show c1 + 1 ≤ 1099511627776; omega)) (ean_cons (en_draw (n := many) rfl (ed_var rfl) (by omega) (by omega) (by show c1 + 1 + 1 ≤ 1099511627776; omega)) (ean_cons (en_draw (n := 4) rfl ed_int (by omega) (by omega) (by show c1 + 1 + 1 + 1 ≤ 1099511627776; omega)) ean_nil))) ?_) (by omega) ?_
          · rintro ds ⟨d1, ds1, rfl, _, d2, ds2, rfl, _, d3, ds3, rfl, _, rfl⟩
            simp
          · rintro d ⟨ds, rfl, ⟨d1, ds1, rfl, ⟨x1, rfl, h1⟩, d2, ds2, rfl, ⟨x2, rfl, h2⟩, d3, ds3, rfl, ⟨x3, rfl, h3⟩, rfl⟩⟩
            exact ⟨x1, x2, x3, rfl, h1, h2⟩
        rintro _ ⟨one, two, way, rfl, h1, h2⟩
        refine ⟨_, tg_tup3, ?_⟩
        refine tr_setN (n := 12) (EN.lift (k := 1 * (rgD 0 many).length) (en_pick (j := 8) (kt := 1) (xs := rgD 0 many) (src_eq (src_range1 (ea_cons (ed_var rfl) ea_nil) (by omega)) hrg) (by omega) (by simp) (fun x _ c' hc' => ?_) rfl) (by omega)) ?_
        · refine etn_test (P := fun _ => True) ?_
          exact en_op (k1 := 1) (k2 := 0) (en_draw (n := 3) rfl ed_int (by omega) (by omega) (by show c' + 1 ≤ 1099511627776; omega)) (ed_int (i := 0)).n fun d1 d2 ⟨x, e1, _⟩ e2 => ⟨.bl (decide (x = 0)), by rw [e1, e2]; exact rd_eqI, _, rfl, trivial⟩
        rintro d ⟨l0, hl0, rfl⟩
        refine tr_seq (fun e c2 => c2 ≤ c1 + 15 ∧ ∃ (l : List Int) (s8 : Slot), Asc many l ∧ e = [.dat (.raw (.ref S)), .dat (.int many), .mu (lots.map dI), .dat (.int (i : Nat)), .dat (.int one), .dat (.int two), .dat (.int way), .dat (dLI l), s8]) ?_ ?_
        · have hde : d = .int (i : Nat) := by
            rw [List.getElem?_map, List.getElem?_range hil] at hd
            exact (Option.some.inj hd).symm
          subst hde
          have hmm : 0 ≤ min one two ∧ min one two ≤ many ∧ 0 ≤ max one two ∧ max one two < many := by omega
          refine tr_if (et_test (ed_op (ed_var rfl) ed_int rd_eqI)) (fun _ => ?_) fun _ => tr_if (et_test (ed_op (ed_var rfl) ed_int rd_eqI)) (fun _ => ?_) fun _ => tr_next ⟨by omega, l0, _, asc_sub hl0, rfl⟩
          · refine tr_set1 (d := dLI (rgD (min one two) (max one two + 1))) (ed_listRg2 (ed_CB (ea_cons (ed_var rfl) (ea_cons (ed_var rfl) ea_nil)) rdl_min2) (ed_op (ed_CB (ea_cons (ed_var rfl) (ea_cons (ed_var rfl) ea_nil)) rdl_max2) ed_int rd_add) (by omega)) ⟨by omega, _, _, ⟨rgD_asc, fun g hg => ?_⟩, rfl⟩
            have := rgD_mem.mp hg
            omega
          · refine tr_setN1 (n := 0) (EN.lift (k := 0 * (rgD 0 many).length) (en_pick (j := 8) (kt := 0) (xs := rgD 0 many) (src_eq (src_range1 (ea_cons (ed_var rfl) ea_nil) (by omega)) hrg) (by omega) (by simp) (fun x _ c' _ => ETN.imp (et_or (et_test (ed_op (ed_var rfl) (ed_var rfl) rd_ge)) fun _ => et_test (ed_op (ed_var rfl) (ed_var rfl) rd_le)).n (Nat.le_refl _) fun _ _ => trivial) rfl) (by omega)) ?_
            rintro d ⟨l, hl, rfl⟩
            exact ⟨by omega, l, _, asc_sub hl, rfl⟩
        · rintro e c2 ⟨hc2, l, s8, hl1, rfl⟩
          have hll := asc_len hl1 (by omega)
          refine tr_appN1 (n := 1) rfl (by rw [List.length_map]; omega) (EN.imp (k := 0 + 1) (en_CB (P := fun ds => ∃ l2 : List Int, Asc many l2 ∧ ds = [dLI l2]) (P' := fun d => ∃ l2 : List Int, Asc many l2 ∧ d = dI l2) (k := 1) (EAN.imp1 (k := 0 + 1 + 0) (ean_cons (en_if (k1 := 1) (k2 := 0) (Pb := fun _ => True) (P := fun d => ∃ l2 : List Int, Asc many l2 ∧ d = dLI l2) ?_ (fun _ => ?_) fun _ => ?_) ean_nil) fun ds ⟨d1, ds1, e1, ⟨l2, h, e2⟩, e3⟩ => ⟨l2, h, by rw [e1, e2, e3]⟩) fun ds ⟨l2, h, e⟩ => ⟨dI l2, by rw [e]; exact rdl_tupL, l2, h, rfl⟩) (by omega) fun d h => h) ?_
          · refine etn_or (k1 := 0) (k2 := 1) (P1 := fun _ => True) (ETN.imp (et_test (ed_op (ed_var rfl) (ed_lst ea_nil (by decide)) (rd_neD (a := dLI l) (b := dLI []) (n := 1) (m := 1) ok_dLI ok_dLI))).n (Nat.le_refl _) fun _ _ => trivial) (fun _ => trivial) fun _ => etn_test (P := fun _ => True) ?_
            exact en_op (k1 := 1) (k2 := 0) (en_draw (n := 6) rfl ed_int (by omega) (by omega) (by show c2 + 0 + 1 ≤ 1099511627776; omega)) (ed_int (i := 0)).n fun d1 d2 ⟨x, e1, _⟩ e2 => ⟨.bl (decide (x = 0)), by rw [e1, e2]; exact rd_eqI, _, rfl, trivial⟩
          · exact (ed_var rfl).n.imp (Nat.le_refl _) fun d e => ⟨l, hl1, e⟩
          · exact (ed_lst (ea_cons (ed_var rfl) ea_nil) (by simp)).n.imp (Nat.le_refl _) fun d e => ⟨[one], ⟨List.pairwise_singleton _ _, fun g hg => by rw [List.mem_singleton.mp hg]; exact h1⟩, e⟩
          · rintro d ⟨l2, h2', rfl⟩
            refine ⟨by omega, by omega, lots ++ [l2], by simp; omega, fun l' hl' => ?_, _, _, _, _, _, _, by rw [List.map_append]; rfl⟩
            rcases List.mem_append.mp hl' with z | z
            · exact hlot l' z
            · rw [List.mem_singleton.mp z]; exact h2'
      · rintro e c1 ⟨hi, hc1, lots, hl, hlot, s3, s4, s5, s6, s7, s8, rfl⟩
        exact ⟨by rw [List.length_map, List.length_range] at hi hc1; omega, lots, by rw [List.length_map, List.length_range] at hi hl; omega, hlot, _, _, _, _, _, _, rfl⟩
    · rintro e c2 ⟨hc2, lots, hl, hlot, s3, s4, s5, s6, s7, s8, rfl⟩
      refine tr_frz (i := 2) rfl ?_
      exact tr_ret (ed_var rfl) ⟨hP lots hl hlot, hc2⟩
end
end K43


set_option Elab.async false
set_option linter.all false
set_option maxRecDepth 100000
set_option maxHeartbeats 4000000
/-! The law's checks of lots. -/
namespace K43
open PySem PySem.Spec PyProof.Rows L2 LamX C8 Fx
section
variable {P : Program} {w : World} {K : PySem.W.Frag} {mg : Str → Option Value} {base : Heap} {T : List (Addr × Str)} {cdv : Value} {c0 P0 : Addr} {W0' : Wld T} {S lw lc a : Addr} {cells ns : List Int} {Pm : Prop}
def fIsHit : List D → D → Prop := fun ds d => ∃ many lots, ∃ m more : Nat, ds = [.int many, dLL lots, .int (more : Nat), grownD lots m []] ∧ LotsOk many lots ∧ more ≤ 16 ∧ canHit lots 0 m [] = false ∧
  ((more = m ∧ d = .bl true) ∨ (more = m + 1 ∧ (∀ l ∈ lots, l ≠ []) ∧ d = .bl false))
theorem nd_is_hit_tree : (["many", "lots", "number", "thing"] : List PySem.Str).Nodup := by decide +kernel
theorem ok_is_hit_tree (F : Df K mg "is_hit_tree" (top 23) ["many", "lots", "number", "thing"] cdv) (B : Bn mg) (c_need_lots : Cal P w K mg base 3 "need_lots" (SpD T fNeedLots) []) (c_need_number : Cal P w K mg base 2 "need_number" (SpD T fNeedNumber) []) (c_is_grown : Cal P w K mg base 20 "is_grown" (SpD T (fIsGrown 18)) []) : Cal P w K mg base (20 + 1) "is_hit_tree" (SpD T fIsHit) [] := by
  have nd := nd_is_hit_tree
  refine calD (N := ["many", "lots", "number", "thing"]) F (by decide +kernel) ?len (fun a A outer s H E hr => ⟨_, (pss_cons (ps_expr (pe_c c_need_lots hr (by omega) rfl (pa_cons (pv 0) (pa_cons (pv 1) pa_nil))))
    (pss_cons (ps_expr (pe_c c_need_number hr (by omega) rfl (pa_cons (pv 2) pa_nil)))
    (pss_one (ps_ret (pe_c c_is_grown hr (by omega) rfl (pa_cons (pv 1) (pa_cons (pe_tup pa_nil) (pa_cons (pv 2) (pa_cons (pv 3) pa_nil))))))))), ?rd⟩)
  case len => rintro ds d ⟨many, lots, m, more, rfl, _⟩; rfl
  case rd =>
    rintro ds d ⟨many, lots, m, more, rfl, ok, hn, hc, hd⟩
    refine tr_drop (d := .non) (ed_call (f := fNeedLots) (ea_cons (ed_var rfl) (ea_cons (ed_var rfl) ea_nil)) ⟨many, lots, rfl, ok.1, ok.2.1, ok.2.2, rfl⟩) ?_
    refine tr_drop (d := .non) (ed_call (f := fNeedNumber) (ea_cons (ed_var rfl) ea_nil) ⟨more, rfl, hn, rfl⟩) ?_
    exact tr_ret (ed_call (f := fIsGrown 18) (ea_cons (ed_var rfl) (ea_cons (ed_tup ea_nil (by decide)) (ea_cons (ed_var rfl) (ea_cons (ed_var rfl) ea_nil)))) ⟨lots, [], m, more, rfl, by omega, ok.tree, by rcases hd with ⟨q, _⟩ | ⟨q, _⟩ <;> simp <;> omega, hc, hd⟩) rfl
/-- the lots within which no other one lies -/
def minF (lots : List (List Int)) : List (List Int) := lots.filter fun lot => decide (((lots.filter fun o => !decide (o = lot) && o.all fun g => decide (g ∈ lot)).map fun _ => (1 : Int)) = [])
def aboutF (many : Int) (lots : List (List Int)) : List (List Int) := lots.map fun l => isI (l.map fun g => many - 1 - g)
def shiftF (many sh : Int) (lots : List (List Int)) : List (List Int) := lots.map fun l => isI (l.map fun g => (g + sh) % many)
/-- what is to be known of lots -/
structure Maths : Prop where
  has : HasLeast
  mn : ∀ many lots, Lots many lots → Lots many (minF lots) ∧ leastF many (minF lots) = leastF many lots
  dbl : ∀ many lots, Lots many lots → lots.length ≤ 8 → Lots many (lots ++ lots) ∧ leastF many (lots ++ lots) = leastF many lots
  cut : ∀ many lots, ∀ s : Nat, Lots many lots → s < lots.length → Lots many (lots.take s ++ lots.drop (s + 1)) ∧ (leastF many (lots.take s ++ lots.drop (s + 1))).length ≤ (leastF many lots).length ∧ (leastF many lots).length ≤ (leastF many (lots.take s ++ lots.drop (s + 1))).length + 1
  wide : ∀ many lots, ∀ (s : Nat) (g : Int) (ms : List Int), Lots many lots → s < lots.length → 0 ≤ g → g < many → ms.Pairwise (· < ·) → (∀ k, k ∈ ms ↔ k ∈ lots.getD s [] ++ [g]) → Lots many (lots.set s ms) ∧ (leastF many (lots.set s ms)).length ≤ (leastF many lots).length
  about : ∀ many lots, Lots many lots → Lots many (aboutF many lots) ∧ (leastF many (aboutF many lots)).length = (leastF many lots).length
  shift : ∀ many lots, ∀ sh : Int, Lots many lots → 0 ≤ sh → sh < many → Lots many (shiftF many sh lots) ∧ (leastF many (shiftF many sh lots)).length = (leastF many lots).length
  hit : ∀ many lots, Lots many lots → (leastF many lots).length ≤ 16 ∧ canHit lots 0 (leastF many lots).length [] = true ∧ ∀ l ∈ lots, ∃ g, g ∈ l ∧ g ∈ leastF many lots
  low : ∀ many lots, Lots many lots → lots ≠ [] → 1 ≤ (leastF many lots).length ∧ canHit lots 0 ((leastF many lots).length - 1) [] = false
def fLotsRight (S : Addr) : List D → (D → Prop) → Prop := fun ds P => ∃ many lots, ds = [.raw (.ref S), .int many, dLL lots] ∧ Lots many lots ∧ lots ≠ [] ∧ lots.length ≤ 8 ∧ P (.bl true)
theorem cut_take (xs : List D) (s : Nat) : Fx.cutD xs none (some (s : Int)) = xs.take s := by
  unfold Fx.cutD
  rw [HT.sIx_none, HT.sIx_nat, Nat.sub_zero, List.drop_zero]
  by_cases h : s ≤ xs.length
  · rw [Nat.min_eq_left h]
  · rw [Nat.min_eq_right (by omega), List.take_of_length_le (Nat.le_refl _), List.take_of_length_le (by omega)]
theorem cut_drop (xs : List D) (s : Nat) : Fx.cutD xs (some (s : Int)) none = xs.drop s := by
  unfold Fx.cutD
  rw [HT.sIx_none, HT.sIx_nat]
  by_cases h : s ≤ xs.length
  · rw [Nat.min_eq_left h, List.take_of_length_le (by rw [List.length_drop]; omega)]
  · rw [Nat.min_eq_right (by omega), List.drop_eq_nil_of_le (Nat.le_refl _), List.drop_eq_nil_of_le (by omega)]
    simp
theorem ed_least {W : Wld T} {E : XK} {env : Env'} {ta : TA} {many : Int} {lots : List (List Int)} (M : Maths) (h : EA W ta env [.int many, dLL lots]) (ok : Lots many lots) : ED W (tCall (SpD T fLeast) [] E ta) env (dI (leastF many lots)) :=
  ed_call (f := fLeast) h ⟨many, lots, rfl, ok.1, .inr ⟨ok.2, _, M.has _ _ ok, rfl⟩⟩
theorem ed_size {W : Wld T} {E : XK} {env : Env'} {ta : TA} {many : Int} {lots : List (List Int)} (h : EA W ta env [.int many, dLL lots]) (ok : Lots many lots) : ED W (tCall (SpD T fSize) [] E ta) env (.int ((leastF many lots).length : Nat)) :=
  ed_call (f := fSize) h ⟨many, lots, rfl, ok, rfl⟩
theorem nd_law_lots_right : (["_law_state", "_law_many_here", "_law_lots", "_law_size_here", "_law_spot", "_law_least", "_law_lot", "_law_other", "_law_fewer", "_law_wider", "_law_about", "_law_gap", "_law_shift", "_law_round_here", "_law_proof", "_law_gaps_here"] : List PySem.Str).Nodup := by decide +kernel
theorem ok_law_lots_right (M : Maths) (F : Df K mg "_law_lots_right" (top 37) ["_law_state", "_law_many_here", "_law_lots"] cdv) (B : Bn mg) (c_law_draw : Cal P w K mg base 3 "_law_draw" (SpSx T 1 fDraw) []) (c_law_size : Cal P w K mg base 27 "_law_size" (SpD T fSize) []) (c_law_lies_in : Cal P w K mg base 2 "_law_lies_in" (SpD T fLiesIn) []) (c_least_hits : Cal P w K mg base 26 "least_hits" (SpD T fLeast) []) (c_hit_tree : Cal P w K mg base 27 "hit_tree" (SpD T fHitTree) []) (c_is_hit_tree : Cal P w K mg base 21 "is_hit_tree" (SpD T fIsHit) []) : Cal P w K mg base (27 + 1) "_law_lots_right" (SpSx T 3 fLotsRight) [] := by
  have nd := nd_law_lots_right
  refine calSx (N := ["_law_state", "_law_many_here", "_law_lots", "_law_size_here", "_law_spot", "_law_least", "_law_lot", "_law_other", "_law_fewer", "_law_wider", "_law_about", "_law_gap", "_law_shift", "_law_round_here", "_law_proof", "_law_gaps_here"]) F (by decide +kernel) ?len (fun a A outer s H E hr => ⟨_, (pss_cons (ps_par (i := 3) (j := 4) rfl nd rfl rfl (by decide) rfl rfl (pa_cons (pe_c c_law_size hr (by omega) rfl (pa_cons (pv 1) (pa_cons (pv 2) pa_nil))) (pa_cons (pe_c c_law_draw hr (by omega) rfl (pa_cons (pv 0) (pa_cons (pe_callB (klen K) rfl (by exact B.len) (by decide +kernel) (pa_cons (pv 2) pa_nil)) pa_nil))) pa_nil)) (by rfl))
    (pss_cons (ps_setLc (i := 5) rfl nd rfl rfl (sw_true rfl rfl rfl (by decide +kernel)) (kpi_list K (pv 2)) (blkOk_by (own := [("_law_lot", 6)]) (by rfl)) (fun _ _ _ _ _ => (pg_name (i := 6) nd rfl (Or.inr rfl))) (fun _ _ _ _ _ => (pts_one (pt_cmpR (keq K hr.units) (pe_lc rfl nd (kpi_list K (pv 2)) (blkOk_by (own := [("_law_other", 7)]) (by rfl)) (fun _ _ _ _ _ => (pg_name (i := 7) nd rfl (Or.inl rfl))) (fun _ _ _ _ _ => (pts_one (PW.pt (pw_and (pt_cmpR (kne K hr.units) (pv 7) (pv 6) (nomark _)) (pw_and1 (pt_val (pe_c c_law_lies_in hr (by omega) rfl (pa_cons (pv 7) (pa_cons (pv 6) pa_nil))))))))) (fun _ _ _ _ _ => pe_int)) (pe_lst pa_nil) (nomark _)))) (fun _ _ _ _ _ => (pv 6)))
    (pss_cons (ps_if (PW.pt (pw_or (pt_cmpR (kne K hr.units) (pe_c c_least_hits hr (by omega) rfl (pa_cons (pv 1) (pa_cons (pv 5) pa_nil))) (pe_c c_least_hits hr (by omega) rfl (pa_cons (pv 1) (pa_cons (pv 2) pa_nil))) (nomark _)) (pw_or1 (pt_cmpR (kne K hr.units) (pe_c c_least_hits hr (by omega) rfl (pa_cons (pv 1) (pa_cons (pe_op op_cat (pv 2) (pv 2)) pa_nil))) (pe_c c_least_hits hr (by omega) rfl (pa_cons (pv 1) (pa_cons (pv 2) pa_nil))) (nomark _))))) (pss_one (ps_ret pe_bl)) pss_nil)
    (pss_cons (ps_set (i := 8) nd rfl (Or.inl rfl) (pe_c c_law_size hr (by omega) rfl (pa_cons (pv 1) (pa_cons (pe_op op_cat (pe_slice (ksl K) (pv 2) po_none (po_some (pv 4))) (pe_slice (ksl K) (pv 2) (po_some (pe_op op_add (pv 4) pe_int)) po_none)) pa_nil))))
    (pss_cons (ps_if (pt_not (pt_chain op_le op_le (pv 8) (pv 3) (pe_op op_add (pv 8) pe_int))) (pss_one (ps_ret pe_bl)) pss_nil)
    (pss_cons (ps_set (i := 9) nd rfl (Or.inl rfl) (pe_callTy (klist K) rfl (by exact B.list) (by decide +kernel) (pa_cons (pv 2) pa_nil)))
    (pss_cons (ps_asg (pe_callTy (ktuple K) rfl (by exact B.tuple) (by decide +kernel) (pa_cons (pe_callB (ksortSet w rfl) rfl (by exact B.sorted) (by decide +kernel) (pa_cons (pe_callTy (cr_setTup K w rfl) rfl (by exact B.set) (by decide +kernel) (pa_cons (pe_op (kcatA K) (pe_ix (kix K) (pv 9) (pv 4) (fun _ _ => rfl)) (pe_tup (pa_cons (pe_c c_law_draw hr (by omega) rfl (pa_cons (pv 0) (pa_cons (pv 1) pa_nil))) pa_nil))) pa_nil)) pa_nil)) pa_nil)) (pg_sub (pv 9) (pv 4) set_list))
    (pss_cons (ps_if (pt_cmpR op_gt (pe_c c_law_size hr (by omega) rfl (pa_cons (pv 1) (pa_cons (pv 9) pa_nil))) (pv 3) (nomark _)) (pss_one (ps_ret pe_bl)) pss_nil)
    (pss_cons (ps_setLc (i := 10) rfl nd rfl rfl (sw_true rfl rfl rfl (by decide +kernel)) (kpi_list K (pv 2)) (blkOk_by (own := [("_law_lot", 6)]) (by rfl)) (fun _ _ _ _ _ => (pg_name (i := 6) nd rfl (Or.inl rfl))) (fun _ _ _ _ _ => pts_nil) (fun _ _ _ _ _ => (pe_callTy (ktuple K) rfl (by exact B.tuple) (by decide +kernel) (pa_cons (pe_callB (ksort K) rfl (by exact B.sorted) (by decide +kernel) (pa_cons (pe_lc rfl nd (kpi_tup K (pv 6)) (blkOk_by (own := [("_law_gap", 11)]) (by rfl)) (fun _ _ _ _ _ => (pg_name (i := 11) nd rfl (Or.inl rfl))) (fun _ _ _ _ _ => pts_nil) (fun _ _ _ _ _ => (pe_op op_sub (pe_op op_sub (pv 1) pe_int) (pv 11)))) pa_nil)) pa_nil))))
    (pss_cons (ps_set (i := 12) nd rfl (Or.inr rfl) (pe_c c_law_draw hr (by omega) rfl (pa_cons (pv 0) (pa_cons (pv 1) pa_nil))))
    (pss_cons (ps_setLc (i := 13) rfl nd rfl rfl (sw_true rfl rfl rfl (by decide +kernel)) (kpi_list K (pv 2)) (blkOk_by (own := [("_law_lot", 6)]) (by rfl)) (fun _ _ _ _ _ => (pg_name (i := 6) nd rfl (Or.inl rfl))) (fun _ _ _ _ _ => pts_nil) (fun _ _ _ _ _ => (pe_callTy (ktuple K) rfl (by exact B.tuple) (by decide +kernel) (pa_cons (pe_callB (ksort K) rfl (by exact B.sorted) (by decide +kernel) (pa_cons (pe_lc rfl nd (kpi_tup K (pv 6)) (blkOk_by (own := [("_law_gap", 11)]) (by rfl)) (fun _ _ _ _ _ => (pg_name (i := 11) nd rfl (Or.inl rfl))) (fun _ _ _ _ _ => pts_nil) (fun _ _ _ _ _ => (pe_op op_mod (pe_callTy call_int1 rfl (by exact B.int) (by decide +kernel) (pa_cons (pe_op op_add (pv 11) (pv 12)) pa_nil)) (pv 1)))) pa_nil)) pa_nil))))
    (pss_cons (ps_if (pt_cmpR (kne K hr.units) (pe_lst (pa_cons (pe_c c_law_size hr (by omega) rfl (pa_cons (pv 1) (pa_cons (pv 10) pa_nil))) (pa_cons (pe_c c_law_size hr (by omega) rfl (pa_cons (pv 1) (pa_cons (pv 13) pa_nil))) pa_nil))) (pe_lst (pa_cons (pv 3) (pa_cons (pv 3) pa_nil))) (nomark _)) (pss_one (ps_ret pe_bl)) pss_nil)
    (pss_cons (ps_if (pt_cmpR op_notN (pe_c c_hit_tree hr (by omega) rfl (pa_cons (pv 1) (pa_cons (pv 2) (pa_cons (pv 3) pa_nil)))) pe_non (nomark _)) (pss_one (ps_ret pe_bl)) pss_nil)
    (pss_cons (ps_if (pt_cmpR op_lt (pv 3) pe_int (nomark _)) (pss_cons (ps_set (i := 14) nd rfl (Or.inl rfl) (pe_c c_hit_tree hr (by omega) rfl (pa_cons (pv 1) (pa_cons (pv 2) (pa_cons (pe_op op_sub (pv 3) pe_int) pa_nil)))))
    (pss_one (ps_if (PW.pt (pw_or (pt_cmpR op_notBl (pe_c c_is_hit_tree hr (by omega) rfl (pa_cons (pv 1) (pa_cons (pv 2) (pa_cons (pe_op op_sub (pv 3) pe_int) (pa_cons (pv 14) pa_nil))))) pe_bl (nomark _)) (pw_or1 (pt_val (pe_c c_is_hit_tree hr (by omega) rfl (pa_cons (pv 1) (pa_cons (pv 2) (pa_cons (pv 3) (pa_cons (pv 14) pa_nil))))))))) (pss_one (ps_ret pe_bl)) pss_nil))) pss_nil)
    (pss_cons (ps_set (i := 15) nd rfl (Or.inr rfl) (pe_c c_least_hits hr (by omega) rfl (pa_cons (pv 1) (pa_cons (pv 2) pa_nil))))
    (pss_one (ps_ret (pe_cmpR (keq K hr.units) (pe_lc rfl nd (kpi_list K (pv 2)) (blkOk_by (own := [("_law_lot", 6)]) (by rfl)) (fun _ _ _ _ _ => (pg_name (i := 6) nd rfl (Or.inl rfl))) (fun _ _ _ _ _ => (pts_one (pt_cmpR (keq K hr.units) (pe_lc rfl nd (kpi_tup K (pv 6)) (blkOk_by (own := [("_law_gap", 11)]) (by rfl)) (fun _ _ _ _ _ => (pg_name (i := 11) nd rfl (Or.inl rfl))) (fun _ _ _ _ _ => (pts_one (pt_cmpR (kin K) (pv 11) (pv 15) (by rfl)))) (fun _ _ _ _ _ => (pv 11))) (pe_lst pa_nil) (nomark _)))) (fun _ _ _ _ _ => (pv 6))) (pe_lst pa_nil) (nomark _))))))))))))))))))), ?rd⟩)
  case len => rintro S ds d ⟨many, lots, rfl, _⟩; rfl
  case rd =>
    rintro W0' S lw lc cells ds P c ⟨many, lots, rfl, ok, hne, hz, hP⟩ hc
    have hc : c + 3 ≤ 1099511627776 := hc
    have hm := ok.1.1
    have hlen := fun l hl => asc_len (many := many) (l := l) (ok.1.lot hl) (by omega)
    have hpos : 0 < lots.length := by
      cases lots with
      | nil => exact absurd rfl hne
      | cons x r => exact Nat.succ_pos _
    refine tr_parN (n := 1) (P := fun ds => ∃ s : Nat, s < lots.length ∧ ds = [.int ((leastF many lots).length : Nat), .int (s : Nat)]) ?_ ?_
    · refine EAN.imp1 (k := 0 + (1 + 0)) (ean_cons (ed_size (ea_cons (ed_var rfl) (ea_cons (ed_var rfl) ea_nil)) ok).n (ean_cons (en_draw (n := ((lots.map dI).length : Nat)) rfl (ed_CB (ea_cons (ed_var rfl) ea_nil) rdl_len) (by rw [List.length_map]; omega) (by rw [List.length_map]; omega) (by show c + 0 + 1 ≤ 1099511627776; omega)) ean_nil)) ?_
      rintro ds ⟨d1, ds1, rfl, rfl, d2, ds2, rfl, ⟨x, rfl, x0, x1⟩, rfl⟩
      rw [List.length_map] at x1
      exact ⟨x.toNat, by omega, by rw [Int.toNat_of_nonneg x0]⟩
    rintro _ ⟨s, hs, rfl⟩
    refine ⟨_, _, rfl, ?_⟩
    refine tr_set (d := dLL (minF lots)) (ed_lc1 lots dI (fun lot => decide (((lots.filter fun o => !decide (o = lot) && o.all fun g => decide (g ∈ lot)).map fun _ => (1 : Int)) = [])) dI (src_list (ed_var rfl)) (by omega) (fun lot hl => ?_) fun lot _ _ => ed_var rfl) ?_
    · refine et_test ((ed_op ((ed_lc1 lots dI (fun o => !decide (o = lot) && o.all fun g => decide (g ∈ lot)) (fun _ => .int 1) (src_list (ed_var rfl)) (by omega) (fun o ho => et_and ((et_test (ed_op (ed_var rfl) (ed_var rfl) (rd_neD (n := 1) (m := 1) ok_dI ok_dI))).eq (by rw [eqv_dI])) fun _ => et_B (ed_call (f := fLiesIn) (ea_cons (ed_var rfl) (ea_cons (ed_var rfl) ea_nil)) ⟨o, lot, rfl, by have := hlen o ho; omega, rfl⟩)) fun o _ _ => ed_int).eq (d' := dLI ((lots.filter fun o => !decide (o = lot) && o.all fun g => decide (g ∈ lot)).map fun _ => (1 : Int))) (by rw [dLI, List.map_map]; rfl)) (ed_lst ea_nil (by decide)) (rd_eqD (b := dLI []) (n := 1) (m := 1) ok_dLI ok_dLI)).eq ?_)
      rw [eqv_dLI]
    obtain ⟨okm, em⟩ := M.mn many lots ok
    obtain ⟨okd, ed⟩ := M.dbl many lots ok hz
    refine tr_when (b := false) ((et_or (a := false) (b := false) ((et_test (ed_op (ed_least M (ea_cons (ed_var rfl) (ea_cons (ed_var rfl) ea_nil)) okm) (ed_least M (ea_cons (ed_var rfl) (ea_cons (ed_var rfl) ea_nil)) ok) (rd_neD (n := 1) (m := 1) ok_dI ok_dI))).eq (by rw [eqv_dI, em, decide_eq_true rfl]; rfl)) fun _ =>
      ((et_test (ed_op (ed_least M (ea_cons (ed_var rfl) (ea_cons ((ed_op (ed_var rfl) (ed_var rfl) (rd_cat (by rw [List.length_map]; omega))).eq (d' := dLL (lots ++ lots)) (by rw [← List.map_append])) ea_nil)) okd) (ed_least M (ea_cons (ed_var rfl) (ea_cons (ed_var rfl) ea_nil)) ok) (rd_neD (n := 1) (m := 1) ok_dI ok_dI))).eq (by rw [eqv_dI, ed, decide_eq_true rfl]; rfl))).eq rfl) (fun z => by cases z) fun _ => ?_
    obtain ⟨okc, hc1, hc2⟩ := M.cut many lots s ok hs
    refine tr_set (ed_size (ea_cons (ed_var rfl) (ea_cons ((ed_op (ed_slL (ed_var rfl) eo_none (eo_some (ed_var rfl))) (ed_slL (ed_var rfl) (eo_some ((ed_op (ed_var rfl) ed_int rd_add).eq (d' := .int ((s + 1 : Nat) : Int)) rfl)) eo_none) (rd_cat ?_)).eq (d' := dLL (lots.take s ++ lots.drop (s + 1))) (by rw [cut_take, cut_drop, dLL, List.map_append, List.map_take, List.map_drop])) ea_nil)) okc) ?_
    · rw [cut_take, cut_drop, List.length_take, List.length_drop, List.length_map]; omega
    refine tr_when (b := false) ((et_not (et_test (et_chain (ed_var rfl) (ed_var rfl) (fun _ => ed_op (ed_var rfl) ed_int rd_add) rd_le fun _ => rd_le))).eq (by rw [decide_eq_true (by omega), decide_eq_true (by omega)]; rfl)) (fun z => by cases z) fun _ => ?_
    refine tr_setMN (n := 0) (P := fun es => es = lots.map dI) (by simp [env0]) (mn_list (.inl (ed_var rfl))) ?_
    rintro _ rfl
    refine tr_setL (n := 1) (j := s) (P := fun d => ∃ (g : Int) (ms : List Int), d = dI ms ∧ 0 ≤ g ∧ g < many ∧ ms.Pairwise (· < ·) ∧ ∀ k, k ∈ ms ↔ k ∈ lots.getD s [] ++ [g]) rfl ?_ (ed_var rfl) (by rw [List.length_map]; exact hs) ?_
    · refine EN.imp (k := 0 + (1 + 0) + 0) (en_CB (P := fun ds => ∃ (g : Int) (ms : List Int), ds = [dLI ms] ∧ 0 ≤ g ∧ g < many ∧ ms.Pairwise (· < ·) ∧ ∀ k, k ∈ ms ↔ k ∈ lots.getD s [] ++ [g]) (P' := fun d => ∃ (g : Int) (ms : List Int), d = dI ms ∧ 0 ≤ g ∧ g < many ∧ ms.Pairwise (· < ·) ∧ ∀ k, k ∈ ms ↔ k ∈ lots.getD s [] ++ [g])
        (EAN.imp1 (k := 0 + (1 + 0) + 0) (ean_cons (en_sortedSet (n := 0 + (1 + 0)) (P := fun ns => ∃ g : Int, 0 ≤ g ∧ g < many ∧ ns = lots.getD s [] ++ [g]) (en_op (ed_ixMu (ds := lots.map dI) (d := dI (lots.getD s [])) rfl (ed_var rfl) (at_lot hs)).n (en_tup (ean_cons (en_draw (n := many) rfl (ed_var rfl) (by omega) (by omega) (by show c + 1 + 0 + 0 + 1 ≤ 1099511627776; omega)) ean_nil) ?_) ?_) ?_) ean_nil) ?_) ?_) (by omega) fun d h => h
      · rintro ds ⟨d1, ds1, rfl, _, rfl⟩; simp
      · rintro d1 d2 rfl ⟨ds, rfl, d1, ds1, rfl, ⟨x, rfl, x0, x1⟩, rfl⟩
        have := hlen _ (getD_mem (d := []) hs)
        exact ⟨dI (lots.getD s [] ++ [x]), by
          show RD2 _ _ (dI _) (dI [x]) (.tup ((lots.getD s [] ++ [x]).map .int))
          rw [List.map_append]
          exact rd_catA (by rw [List.length_map, List.length_map, List.length_singleton]; omega), _, rfl, x, x0, x1, rfl⟩
      · rintro ns ⟨x, x0, x1, rfl⟩
        have := hlen _ (getD_mem (d := []) hs)
        rw [List.length_append, List.length_singleton]
        omega
      · rintro ds ⟨d1, ds1, rfl, ⟨ns, ms, ⟨x, x0, x1, rfl⟩, rfl, h1, h2⟩, rfl⟩
        exact ⟨x, ms, rfl, x0, x1, h1, h2⟩
      · rintro ds ⟨x, ms, rfl, h⟩
        exact ⟨dI ms, rdl_tupL, x, ms, rfl, h⟩
    rintro _ ⟨g, ms, rfl, g0, g1, hms, hmem⟩
    obtain ⟨okw, hw⟩ := M.wide many lots s g ms ok hs g0 g1 hms hmem
    refine tr_frz (i := 9) rfl ?_
    have ew : (lots.map dI).set s (dI ms) = (lots.set s ms).map dI := (List.map_set).symm
    rw [ew]
    refine tr_when (b := false) ((et_test (ed_op (ed_size (ea_cons (ed_var rfl) (ea_cons (ed_var rfl) ea_nil)) okw) (ed_var rfl) rd_gt)).eq (decide_eq_false (by omega))) (fun z => by cases z) fun _ => ?_
    obtain ⟨oka, ea⟩ := M.about many lots ok
    refine tr_set (d := dLL (aboutF many lots)) ((ed_map1 lots dI (fun l => dI (isI (l.map fun g => many - 1 - g))) (src_list (ed_var rfl)) (by omega) fun l hl => ed_CB (ea_cons (ed_CB (ea_cons ((ed_map1 l .int (fun g => .int (many - 1 - g)) (src_tup (ed_var rfl)) (by have := hlen l hl; omega) fun g _ => ed_op (ed_op (ed_var rfl) ed_int rd_sub) (ed_var rfl) rd_sub).eq (d' := dLI (l.map fun g => many - 1 - g)) (by rw [dLI, List.map_map]; rfl)) ea_nil) rdl_sortI) ea_nil) rdl_tupL).eq (by unfold aboutF; rw [dLL, List.map_map]; rfl)) ?_
    refine tr_setN (en_draw (n := many) rfl (ed_var rfl) (by omega) (by omega) (by show c + 1 + 1 + 1 ≤ 1099511627776; omega)) ?_
    rintro _ ⟨sh, rfl, s0, s1⟩
    obtain ⟨oks, es⟩ := M.shift many lots sh ok s0 s1
    refine tr_set (d := dLL (shiftF many sh lots)) ((ed_map1 lots dI (fun l => dI (isI (l.map fun g => (g + sh) % many))) (src_list (ed_var rfl)) (by omega) fun l hl => ed_CB (ea_cons (ed_CB (ea_cons ((ed_map1 l .int (fun g => .int ((g + sh) % many)) (src_tup (ed_var rfl)) (by have := hlen l hl; omega) fun g _ => ed_op (ed_CB (ea_cons (ed_op (ed_var rfl) (ed_var rfl) rd_add) ea_nil) rdl_int) (ed_var rfl) (rd_mod (by omega))).eq (d' := dLI (l.map fun g => (g + sh) % many)) (by rw [dLI, List.map_map]; rfl)) ea_nil) rdl_sortI) ea_nil) rdl_tupL).eq (by unfold shiftF; rw [dLL, List.map_map]; rfl)) ?_
    refine tr_when (b := false) ((et_test (ed_op (ed_lst (ea_cons (ed_size (ea_cons (ed_var rfl) (ea_cons (ed_var rfl) ea_nil)) oka) (ea_cons (ed_size (ea_cons (ed_var rfl) (ea_cons (ed_var rfl) ea_nil)) oks) ea_nil)) (by simp)) (ed_lst (ea_cons (ed_var rfl) (ea_cons (ed_var rfl) ea_nil)) (by simp)) (rd_neD (a := dLI [_, _]) (b := dLI [_, _]) (n := 1) (m := 1) ok_dLI ok_dLI))).eq (by rw [eqv_dLI, ea, es, decide_eq_true rfl]; rfl)) (fun z => by cases z) fun _ => ?_
    obtain ⟨t16, thit, tall⟩ := M.hit many lots ok
    obtain ⟨t1, tlow⟩ := M.low many lots ok hne
    refine tr_when (b := false) (et_test ((ed_op (ed_call (f := fHitTree) (ea_cons (ed_var rfl) (ea_cons (ed_var rfl) (ea_cons (ed_var rfl) ea_nil))) ⟨many, lots, _, rfl, ok.1, t16, by rw [thit]; rfl⟩) ed_non (rd_notN (d := .non) (fun v z => by cases z))))) (fun z => by cases z) fun _ => ?_
    have hlne : ∀ l ∈ lots, l ≠ [] := fun l hl z => ok.2 (z ▸ hl)
    refine tr_seq (fun e c2 => c2 = c + 3 ∧ ∃ s14, e = [.dat (.raw (.ref S)), .dat (.int many), .dat (dLL lots), .dat (.int ((leastF many lots).length : Nat)), .dat (.int (s : Nat)), .dat (dLL (minF lots)), .emp, .emp, .dat (.int ((leastF many (lots.take s ++ lots.drop (s + 1))).length : Nat)), .dat (dLL (lots.set s ms)), .dat (dLL (aboutF many lots)), .emp, .dat (.int sh), .dat (dLL (shiftF many sh lots)), s14, .emp]) (tr_if (et_test (ed_op (ed_var rfl) ed_int rd_lt)) (fun _ => ?_) fun _ => tr_next ⟨rfl, _, rfl⟩) ?_
    · have en : ED (T := T) (WDr W0' S lw lc cells) (tOp (rI0 fun i j => .int (i - j)) (tVar 3) (tC (.int 1))) [.dat (.raw (.ref S)), .dat (.int many), .dat (dLL lots), .dat (.int ((leastF many lots).length : Nat)), .dat (.int (s : Nat)), .dat (dLL (minF lots)), .emp, .emp, .dat (.int ((leastF many (lots.take s ++ lots.drop (s + 1))).length : Nat)), .dat (dLL (lots.set s ms)), .dat (dLL (aboutF many lots)), .emp, .dat (.int sh), .dat (dLL (shiftF many sh lots)), .emp, .emp] (.int (((leastF many lots).length - 1 : Nat) : Int)) := (ed_op (ed_var rfl) ed_int rd_sub).eq (by congr 1; omega)
      refine tr_set (d := grownD lots ((leastF many lots).length - 1) []) (ed_call (f := fHitTree) (ea_cons (ed_var rfl) (ea_cons (ed_var rfl) (ea_cons en ea_nil))) ⟨many, lots, _, rfl, ok.1, by omega, by rw [tlow]; rfl⟩) ?_
      refine tr_if (b := false) ((et_or (a := false) (b := false) (et_test (ed_op (ed_call (f := fIsHit) (ea_cons (ed_var rfl) (ea_cons (ed_var rfl) (ea_cons ((ed_op (ed_var rfl) ed_int rd_sub).eq (d' := .int (((leastF many lots).length - 1 : Nat) : Int)) (by congr 1; omega)) (ea_cons (ed_var rfl) ea_nil)))) ⟨many, lots, _, _, rfl, ok.1, by omega, tlow, .inl ⟨rfl, rfl⟩⟩) ed_bl rd_notB)) fun _ =>
        et_B (ed_call (f := fIsHit) (ea_cons (ed_var rfl) (ea_cons (ed_var rfl) (ea_cons (ed_var rfl) (ea_cons (ed_var rfl) ea_nil)))) ⟨many, lots, _, _, rfl, ok.1, t16, tlow, .inr ⟨by omega, hlne, rfl⟩⟩)).eq rfl) (fun z => by cases z) fun _ => tr_next ⟨rfl, _, rfl⟩
    · rintro e c2 ⟨rfl, s14, rfl⟩
      refine tr_set (ed_least M (ea_cons (ed_var rfl) (ea_cons (ed_var rfl) ea_nil)) ok) ?_
      refine tr_ret (d := .bl true) ((ed_op (ed_lc1 lots dI (fun lot => decide ((lot.filter fun g => decide (g ∈ leastF many lots)) = [])) dI (src_list (ed_var rfl)) (by omega) (fun lot hl => (et_test (ed_op (ed_lc1 lot .int (fun g => decide (g ∈ leastF many lots)) .int (src_tup (ed_var rfl)) (by have := hlen lot hl; omega) (fun g _ => et_test (ed_op (ed_var rfl) (ed_var rfl) (rd_inT (neg := false)))) fun g _ _ => ed_var rfl) (ed_lst ea_nil (by decide)) (rd_eqD (a := dLI _) (b := dLI []) (n := 1) (m := 1) ok_dLI ok_dLI))).eq (by rw [eqv_dLI])) fun _ _ _ => ed_var rfl) (ed_lst ea_nil (by decide)) (rd_eqD (a := dLL _) (b := dLL []) (n := 2) (m := 2) ok_dLL ok_dLL)).eq ?_) ⟨hP, by omega⟩
      rw [eqv_dLL]
      congr 1
      refine decide_eq_true (List.filter_eq_nil_iff.mpr fun l hl z => ?_)
      obtain ⟨g, g1, g2⟩ := tall l hl
      have := List.filter_eq_nil_iff.mp (of_decide_eq_true z) g g1
      exact this (decide_eq_true g2)
end
end K43


set_option Elab.async false
set_option linter.all false
set_option maxRecDepth 100000
set_option maxHeartbeats 4000000
/-! Stretches and arcs: the law's checks. -/
namespace K43
open PySem PySem.Spec PyProof.Rows L2 LamX C8 Fx
section
variable {P : Program} {w : World} {K : PySem.W.Frag} {mg : Str → Option Value} {base : Heap} {T : List (Addr × Str)} {cdv : Value} {c0 P0 : Addr} {W0' : Wld T} {S lw lc a : Addr} {cells ns : List Int} {Pm : Prop}
theorem isI_two (x y : Int) : isI [x, y] = if y < x then [y, x] else [x, y] := by
  unfold isI isort
  simp only [isort, ins]
  by_cases h : y < x <;> simp [h, ins, isort]
def StOk (many : Int) (ps : List (Int × Int)) : Prop := (4 ≤ many ∧ many ≤ 12) ∧ ps.length ≤ 8 ∧ ps ≠ [] ∧ ∀ p ∈ ps, 0 ≤ p.1 ∧ p.1 ≤ p.2 ∧ p.2 < many
def stLots (ps : List (Int × Int)) : List (List Int) := ps.map fun p => rgD p.1 (p.2 + 1)
structure Maths2 : Prop where
  st : ∀ many ps, StOk many ps → Lots many (stLots ps) ∧ (leastF many (stLots ps)).length = (stretchF (byEnd ps) (-1)).length ∧
    ∀ p ∈ stretchF (byEnd ps) (-1), ∀ q ∈ stretchF (byEnd ps) (-1), p ≠ q → ¬ (p.1 ≤ q.2 ∧ q.1 ≤ p.2)
def fSt (S : Addr) : List D → (D → Prop) → Prop := fun ds P => ∃ many : Int, ds = [.raw (.ref S), .int many] ∧ 4 ≤ many ∧ many ≤ 12 ∧ P (.bl true)
theorem en_lotsRight {W0' : Wld T} {E : XK} {env : Env'} {c : Nat} {many : Int} {lots : List (List Int)} {ta : TA} (h : EA (WDr W0' S lw lc cells) ta env [.raw (.ref S), .int many, dLL lots]) (ok : Lots many lots) (hne : lots ≠ []) (hz : lots.length ≤ 8) (hc : c + 3 ≤ CAP) : EN (WDr W0' S lw lc cells) (tCall (SpSx T 3 fLotsRight) [] E ta) env c 3 (fun d => d = .bl true) :=
  en_callX (n := 0) (f := fLotsRight) h.n (fun ds e => ⟨many, lots, e, ok, hne, hz, rfl⟩) hc
theorem nd_law_stretches_right : (["_law_state", "_law_many_here", "_law_pairs", "_law_turn", "_law_two", "_law_lots", "_law_one", "_law_size_here", "_law_apart_here"] : List PySem.Str).Nodup := by decide +kernel
theorem ok_law_stretches_right (M : Maths2) (F : Df K mg "_law_stretches_right" (top 34) ["_law_state", "_law_many_here"] cdv) (B : Bn mg) (c_law_draw : Cal P w K mg base 3 "_law_draw" (SpSx T 1 fDraw) []) (c_law_size : Cal P w K mg base 27 "_law_size" (SpD T fSize) []) (c_law_stretch_size : Cal P w K mg base 7 "_law_stretch_size" (SpD T fStretch) []) (c_law_lots_right : Cal P w K mg base 28 "_law_lots_right" (SpSx T 3 fLotsRight) []) : Cal P w K mg base (28 + 1) "_law_stretches_right" (SpSx T 20 fSt) [] := by
  have nd := nd_law_stretches_right
  refine calSx (N := ["_law_state", "_law_many_here", "_law_pairs", "_law_turn", "_law_two", "_law_lots", "_law_one", "_law_size_here", "_law_apart_here"]) F (by decide +kernel) ?len (fun a A outer s H E hr => ⟨_, (pss_cons (ps_set (i := 2) nd rfl (Or.inl rfl) (pe_lst pa_nil))
    (pss_cons (ps_for PassesOwn.never rfl (pi_range1 rfl (by exact B.range) (pa_cons (pe_op op_add pe_int (pe_c c_law_draw hr (by omega) rfl (pa_cons (pv 0) (pa_cons pe_int pa_nil)))) pa_nil)) (pg_name (i := 3) nd rfl (Or.inl rfl)) (pss_cons (ps_set (i := 4) nd rfl (Or.inl rfl) (pe_callB (ksort K) rfl (by exact B.sorted) (by decide +kernel) (pa_cons (pe_lst (pa_cons (pe_c c_law_draw hr (by omega) rfl (pa_cons (pv 0) (pa_cons (pv 1) pa_nil))) (pa_cons (pe_c c_law_draw hr (by omega) rfl (pa_cons (pv 0) (pa_cons (pv 1) pa_nil))) pa_nil))) pa_nil)))
    (pss_one (ps_expr (pe_bm PySem.F.plainAttrs_list PySem.F.slot_list_append PySem.F.type_list_append mt_append (pv 2) (pa_cons (pe_tup (pa_cons (pe_ix (kix K) (pv 4) pe_int (fun _ _ => rfl)) (pa_cons (pe_ix (kix K) (pv 4) pe_int (fun _ _ => rfl)) pa_nil))) pa_nil))))))
    (pss_cons (ps_setLc (i := 5) (g := gTup K 2 (gCons (gName 6) (gCons (gName 4) gNil))) rfl nd rfl rfl (sw_true rfl rfl rfl (by decide +kernel)) (kpi_list K (pv 2)) (blkOk_by (own := [("_law_one", 6), ("_law_two", 4)]) (by rfl)) (fun _ _ _ _ _ => (by exact pg_tup rfl (pgs_cons (pg_name (i := 6) nd rfl (Or.inl rfl)) (pgs_cons (pg_name (i := 4) nd rfl (Or.inl rfl)) pgs_nil)))) (fun _ _ _ _ _ => pts_nil) (fun _ _ _ _ _ => (pe_tupRg rfl rfl (by exact B.tuple) (prg_2 rfl (by exact B.range) (pv 6) (pe_op op_add (pv 4) pe_int)))))
    (pss_cons (ps_asg (pe_c c_law_stretch_size hr (by omega) rfl (pa_cons (pv 2) pa_nil)) (pg_tup rfl (pgs_cons (pg_name (i := 7) nd rfl (Or.inl rfl)) (pgs_cons (pg_name (i := 8) nd rfl (Or.inl rfl)) pgs_nil))))
    (pss_cons (ps_if (pt_cmpR (kne K hr.units) (pe_c c_law_size hr (by omega) rfl (pa_cons (pv 1) (pa_cons (pv 5) pa_nil))) (pv 7) (nomark _)) (pss_one (ps_ret pe_bl)) pss_nil)
    (pss_cons (ps_for PassesOwn.never rfl (kpi_list K (pv 8)) (pg_name (i := 6) nd rfl (Or.inl rfl)) (pss_one (ps_for PassesOwn.never rfl (kpi_list K (pv 8)) (pg_name (i := 4) nd rfl (Or.inl rfl)) (pss_one (ps_if (PW.pt (pw_and (pt_cmpR (kne K hr.units) (pv 6) (pv 4) (nomark _)) (pw_and (pt_cmpR op_le (pe_ix (kix K) (pv 6) pe_int (fun _ _ => rfl)) (pe_ix (kix K) (pv 4) pe_int (fun _ _ => rfl)) (nomark _)) (pw_and1 (pt_cmpR op_le (pe_ix (kix K) (pv 4) pe_int (fun _ _ => rfl)) (pe_ix (kix K) (pv 6) pe_int (fun _ _ => rfl)) (nomark _)))))) (pss_one (ps_ret pe_bl)) pss_nil)))))
    (pss_one (ps_ret (pe_c c_law_lots_right hr (by omega) rfl (pa_cons (pv 0) (pa_cons (pv 1) (pa_cons (pv 5) pa_nil)))))))))))), ?rd⟩)
  case len => rintro S ds d ⟨many, rfl, _⟩; rfl
  case rd =>
    rintro W0' S lw lc cells ds P c ⟨many, rfl, m0, m1, hP⟩ hc
    have hc : c + 20 ≤ 1099511627776 := hc
    refine tr_new (by simp [env0]) ?_
    refine tr_seq (fun e c2 => c2 ≤ c + 17 ∧ ∃ ps : List (Int × Int), StOk many ps ∧ ∃ s3 s4 s5 s6 s7 s8, e = [.dat (.raw (.ref S)), .dat (.int many), .mu (ps.map dP), s3, s4, s5, s6, s7, s8]) ?_ ?_
    · refine tr_for (srcN_range1 (c := c) (P := fun x => 1 ≤ x ∧ x < 9) (k := 1) (EAN.imp1 (k := 0 + 1 + 0) (ean_cons (en_op (P := fun d => ∃ x : Int, d = .int x ∧ 1 ≤ x ∧ x < 9) (ed_int (i := 1)).n (en_draw (n := 8) rfl ed_int (by decide) (by decide) (show c + 0 + 1 ≤ 1099511627776 by omega)) fun d1 d2 e1 ⟨x, e2, x0, x1⟩ => ⟨.int (1 + x), by rw [e1, e2]; exact rd_add, 1 + x, rfl, by omega, by omega⟩) ean_nil) fun ds ⟨d1, ds1, e1, ⟨x, e2, h⟩, e3⟩ => ⟨x, by rw [e1, e2, e3], h⟩) fun n h => by omega) ?_
      rintro _ ⟨n, hn, rfl⟩
      refine ⟨fun i e c2 => i ≤ 8 ∧ c2 ≤ c + 1 + 2 * i ∧ ∃ ps : List (Int × Int), ps.length = i ∧ (∀ p ∈ ps, 0 ≤ p.1 ∧ p.1 ≤ p.2 ∧ p.2 < many) ∧ ∃ s3 s4 s5 s6 s7 s8, e = [.dat (.raw (.ref S)), .dat (.int many), .mu (ps.map dP), s3, s4, s5, s6, s7, s8], ⟨by omega, by omega, [], rfl, (fun p h => by cases h), _, _, _, _, _, _, rfl⟩, ?_, ?_⟩
      · rintro i d e c1 hd ⟨hi, hc1, ps, hl, hps, s3, s4, s5, s6, s7, s8, rfl⟩
        have hil : i < n.toNat := by
          have := (List.getElem?_eq_some_iff.mp hd).1
          rwa [List.length_map, List.length_range] at this
        refine ⟨_, tg_name, ?_⟩
        refine tr_setN (n := 2) (P := fun d => ∃ p : Int × Int, d = dLI [p.1, p.2] ∧ 0 ≤ p.1 ∧ p.1 ≤ p.2 ∧ p.2 < many) ?_ ?_
        · refine EN.imp (k := 1 + (1 + 0) + 0) (en_CB (P := fun ds => ∃ x y : Int, ds = [dLI [x, y]] ∧ (0 ≤ x ∧ x < many) ∧ (0 ≤ y ∧ y < many)) (P' := fun d => ∃ p : Int × Int, d = dLI [p.1, p.2] ∧ 0 ≤ p.1 ∧ p.1 ≤ p.2 ∧ p.2 < many) (EAN.imp1 (k := 1 + (1 + 0) + 0) (ean_cons (en_lst (ean_cons (en_draw (n := many) rfl (ed_var rfl) (by omega) (by omega) (by show c1 + 1 ≤ 1099511627776; omega)) (ean_cons (en_draw (n := many) rfl (ed_var rfl) (by omega) (by omega) (by show c1 + 1 + 1 ≤ 1099511627776; omega)) ean_nil)) ?_) ean_nil) ?_) ?_) (by omega) fun d h => h
          · rintro ds ⟨d1, ds1, rfl, _, d2, ds2, rfl, _, rfl⟩; simp
          · rintro ds ⟨d0, ds0, rfl, ⟨ds, rfl, d1, ds1, rfl, ⟨x, rfl, hx⟩, d2, ds2, rfl, ⟨y, rfl, hy⟩, rfl⟩, rfl⟩
            exact ⟨x, y, rfl, hx, hy⟩
          · rintro ds ⟨x, y, rfl, hx, hy⟩
            refine ⟨dLI (isI [x, y]), rdl_sortI, ?_⟩
            rw [isI_two]
            by_cases h : y < x
            · rw [if_pos h]; exact ⟨(y, x), rfl, hy.1, Int.le_of_lt h, hx.2⟩
            · rw [if_neg h]; exact ⟨(x, y), rfl, hx.1, by omega, hy.2⟩
        rintro _ ⟨p, rfl, hp⟩
        refine tr_app1 (d := dP p) rfl (by rw [List.length_map]; omega) (ed_tup (ea_cons (ed_op (ed_var rfl) ed_int (rd_ixL (i := 0) rfl)) (ea_cons (ed_op (ed_var rfl) ed_int (rd_ixL (i := 1) rfl)) ea_nil)) (by simp)) ⟨by omega, by omega, ps ++ [p], by simp; omega, fun q hq => ?_, _, _, _, _, _, _, by rw [List.map_append]; rfl⟩
        rcases List.mem_append.mp hq with z | z
        · exact hps q z
        · rw [List.mem_singleton.mp z]; exact hp
      · rintro e c1 ⟨hi, hc1, ps, hl, hps, s3, s4, s5, s6, s7, s8, rfl⟩
        rw [List.length_map, List.length_range] at hi hc1 hl
        exact ⟨by omega, ps, ⟨⟨m0, m1⟩, by omega, fun z => by rw [z] at hl; simp at hl; omega, hps⟩, _, _, _, _, _, _, rfl⟩
    · rintro e c2 ⟨hc2, ps, ok, s3, s4, s5, s6, s7, s8, rfl⟩
      obtain ⟨okl, hsz, hap⟩ := M.st many ps ok
      have hpl := ok.2.1
      refine tr_frz (i := 2) rfl ?_
      refine tr_set (d := dLL (stLots ps)) ((ed_map2 ps (fun p => .int p.1) (fun p => .int p.2) (fun p => dI (rgD p.1 (p.2 + 1))) (src_list (ed_var rfl)) (by omega) (by decide) fun p hp => ed_tupRg2 (ed_var rfl) (ed_op (ed_var rfl) ed_int rd_add) (by have := ok.2.2.2 p hp; omega)).eq (by unfold stLots; rw [dLL, List.map_map]; rfl)) ?_
      refine tr_tg (ed_call (f := fStretch) (ea_cons (ed_var rfl) ea_nil) ⟨ps, rfl, by omega, rfl⟩) tg_tup2 ?_
      refine tr_when (b := false) ((et_test (ed_op (ed_size (ea_cons (ed_var rfl) (ea_cons (ed_var rfl) ea_nil)) okl) (ed_var rfl) rd_neI)).eq (by rw [hsz, decide_eq_true rfl]; rfl)) (fun z => by cases z) fun _ => ?_
      refine tr_seq (fun e c3 => c3 = c2 ∧ ∃ s4 s6, e = [.dat (.raw (.ref S)), .dat (.int many), .dat (.lst (ps.map dP)), s3, s4, .dat (dLL (stLots ps)), s6, .dat (.int ((stretchF (byEnd ps) (-1)).length : Nat)), .dat (.lst ((stretchF (byEnd ps) (-1)).map dP))]) ?_ ?_
      · refine tr_for (src_list (ed_var rfl)).n ?_
        rintro _ rfl
        refine ⟨fun _ e c3 => c3 = c2 ∧ ∃ s4 s6, e = [.dat (.raw (.ref S)), .dat (.int many), .dat (.lst (ps.map dP)), s3, s4, .dat (dLL (stLots ps)), s6, .dat (.int ((stretchF (byEnd ps) (-1)).length : Nat)), .dat (.lst ((stretchF (byEnd ps) (-1)).map dP))], ⟨rfl, _, _, rfl⟩, ?_, fun e c h => h⟩
        rintro i d e c3 hd ⟨ec3, s4, s6, rfl⟩
        obtain ⟨p, hp, rfl⟩ := List.mem_map.mp (List.mem_of_getElem? hd)
        refine ⟨_, tg_name, ?_⟩
        refine tr_for (src_list (ed_var rfl)).n ?_
        rintro _ rfl
        refine ⟨fun _ e c3 => c3 = c2 ∧ ∃ s4, e = [.dat (.raw (.ref S)), .dat (.int many), .dat (.lst (ps.map dP)), s3, s4, .dat (dLL (stLots ps)), .dat (dP p), .dat (.int ((stretchF (byEnd ps) (-1)).length : Nat)), .dat (.lst ((stretchF (byEnd ps) (-1)).map dP))], ⟨ec3, _, rfl⟩, ?_, fun e c ⟨h1, s4, h2⟩ => ⟨h1, s4, _, h2⟩⟩
        rintro j d e c4 hd ⟨ec4, s4, rfl⟩
        obtain ⟨q, hq, rfl⟩ := List.mem_map.mp (List.mem_of_getElem? hd)
        refine ⟨_, tg_name, ?_⟩
        refine tr_if (b := false) ((et_and (a := !decide (p = q)) (b := decide (p.1 ≤ q.2) && decide (q.1 ≤ p.2)) ((et_test (ed_op (ed_var rfl) (ed_var rfl) (rd_neD (a := dP p) (b := dP q) (n := 1) (m := 1) ok_dI ok_dI))).eq ?_) fun _ => et_and (et_test (ed_op (ed_op (ed_var rfl) ed_int (rd_ixT (i := 0) rfl)) (ed_op (ed_var rfl) ed_int (rd_ixT (i := 1) rfl)) rd_le)) fun _ => et_test (ed_op (ed_op (ed_var rfl) ed_int (rd_ixT (i := 0) rfl)) (ed_op (ed_var rfl) ed_int (rd_ixT (i := 1) rfl)) rd_le)).eq ?_) (fun z => by cases z) fun _ => tr_next ⟨ec4, _, rfl⟩
        · rw [eqv_dI]
          congr 1
          rw [decide_eq_decide]
          constructor
          · intro h; cases p; cases q; simp at h; exact Prod.ext h.1 h.2
          · rintro rfl; rfl
        · have := hap p hp q hq
          by_cases e : p = q
          · rw [decide_eq_true e]; rfl
          · have h := this e
            rw [decide_eq_false e]
            by_cases h1 : p.1 ≤ q.2
            · rw [decide_eq_true h1, decide_eq_false fun z => h ⟨h1, z⟩]; rfl
            · rw [decide_eq_false h1]; rfl
      · rintro e c3 ⟨rfl, s4, s6, rfl⟩
        refine tr_retN (n := 3) (P := fun d => d = .bl true) (en_lotsRight (ea_cons (ed_var rfl) (ea_cons (ed_var rfl) (ea_cons (ed_var rfl) ea_nil))) okl ?_ ?_ ?_) ?_
        · exact fun z => ok.2.2.1 (by unfold stLots at z; exact List.map_eq_nil_iff.mp z)
        · unfold stLots; rw [List.length_map]; exact hpl
        · show c3 + 3 ≤ 1099511627776; omega
        · rintro d rfl
          exact ⟨hP, by omega⟩
end
end K43


set_option Elab.async false
set_option linter.all false
set_option maxRecDepth 100000
set_option maxHeartbeats 4000000
/-! Arcs: the law's checks. -/
namespace K43
open PySem PySem.Spec PyProof.Rows L2 LamX C8 Fx
section
variable {P : Program} {w : World} {K : PySem.W.Frag} {mg : Str → Option Value} {base : Heap} {T : List (Addr × Str)} {cdv : Value} {c0 P0 : Addr} {W0' : Wld T} {S lw lc a : Addr} {cells ns : List Int} {Pm : Prop}
def arcLots (many : Int) (ps : List (Int × Int)) : List (List Int) := ps.map fun p => arcF many p.1 p.2
def shortF (lots : List (List Int)) : List Int := match lots with
  | [] => []
  | l :: r => pick (fun a b : Int => decide (a < b)) (fun l => (l.length : Int)) l r
def okAp (lots : List (List Int)) (s lot : List Int) : Bool := decide (((s.filter fun j => !decide (((lots.getD j.toNat []).filter fun g => decide (g ∈ lot)) = [])).map fun _ => (1 : Int)) = [])
def apN (lots : List (List Int)) : Nat → List (List Int)
  | 0 => [[]]
  | i + 1 => apN lots i ++ ((apN lots i).filter fun s => okAp lots s (lots.getD i [])).map fun s => s ++ [(i : Int)]
theorem apN_len (lots : List (List Int)) : ∀ i, (apN lots i).length ≤ 2 ^ i
  | 0 => Nat.le_refl _
  | i + 1 => by
    rw [apN, List.length_append, List.length_map]
    have h1 := apN_len lots i
    have h2 := List.length_filter_le (fun s => okAp lots s (lots.getD i [])) (apN lots i)
    rw [Nat.pow_succ]
    omega
theorem apN_in (lots : List (List Int)) : ∀ i, ∀ s ∈ apN lots i, s.length ≤ i ∧ ∀ j ∈ s, 0 ≤ j ∧ j < i
  | 0, s, h => by
    rw [List.mem_singleton.mp h]
    exact ⟨Nat.le_refl _, fun j hj => by cases hj⟩
  | i + 1, s, h => by
    rcases List.mem_append.mp h with h | h
    · obtain ⟨h1, h2⟩ := apN_in lots i s h
      exact ⟨by omega, fun j hj => by have := h2 j hj; omega⟩
    · obtain ⟨t, ht, rfl⟩ := List.mem_map.mp h
      obtain ⟨h1, h2⟩ := apN_in lots i t (List.mem_filter.mp ht).1
      refine ⟨by simp; omega, fun j hj => ?_⟩
      rcases List.mem_append.mp hj with z | z
      · have := h2 j z; omega
      · rw [List.mem_singleton.mp z]; omega
theorem apN_ne (lots : List (List Int)) : ∀ i, apN lots i ≠ []
  | 0 => by simp [apN]
  | i + 1 => fun z => apN_ne lots i (List.append_eq_nil_iff.mp z).1
theorem max_ex : ∀ ns : List Int, ns ≠ [] → ∃ m, m ∈ ns ∧ ∀ y ∈ ns, y ≤ m
  | [], h => absurd rfl h
  | [x], _ => ⟨x, List.mem_cons_self, fun y hy => by rw [List.mem_singleton.mp hy]; exact Int.le_refl _⟩
  | x :: y :: r, _ => by
    obtain ⟨m, h1, h2⟩ := max_ex (y :: r) (by simp)
    by_cases h : m ≤ x
    · exact ⟨x, List.mem_cons_self, fun z hz => by
        rcases List.mem_cons.mp hz with rfl | hz
        · exact Int.le_refl _
        · exact Int.le_trans (h2 z hz) h⟩
    · exact ⟨m, List.mem_cons_of_mem _ h1, fun z hz => by
        rcases List.mem_cons.mp hz with rfl | hz
        · omega
        · exact h2 z hz⟩
structure Maths3 : Prop where
  ar : ∀ many ps, PairsOk many ps → ps ≠ [] → Lots many (arcLots many ps) ∧
    (((leastF many (arcLots many ps)).length : Nat) : Int) ∈ (shortF (arcLots many ps)).map (fun g => ((cutF many ps g : Nat) : Int)) ∧
    (∀ y ∈ (shortF (arcLots many ps)).map (fun g => ((cutF many ps g : Nat) : Int)), (((leastF many (arcLots many ps)).length : Nat) : Int) ≤ y) ∧
    ∀ b : Int, b ∈ (apN (arcLots many ps) ps.length).map (fun s => ((s.length : Nat) : Int)) → (∀ y ∈ (apN (arcLots many ps) ps.length).map (fun s => ((s.length : Nat) : Int)), y ≤ b) → b ≤ ((leastF many (arcLots many ps)).length : Nat) ∧ ((leastF many (arcLots many ps)).length : Nat) ≤ b + 1
theorem pairs_of {Pp : Int × Int → Prop} (ds : List D) (h : ∀ d ∈ ds, ∃ p : Int × Int, d = dP p ∧ Pp p) : ∃ ps : List (Int × Int), ds = ps.map dP ∧ ∀ p ∈ ps, Pp p := by
  induction ds with
  | nil => exact ⟨[], rfl, fun _ h => by cases h⟩
  | cons d r ih =>
    obtain ⟨x, rfl, hx⟩ := h d List.mem_cons_self
    obtain ⟨ws, rfl, hw⟩ := ih fun d hd => h d (List.mem_cons_of_mem _ hd)
    exact ⟨x :: ws, rfl, fun y hy => by
      rcases List.mem_cons.mp hy with rfl | hy
      · exact hx
      · exact hw y hy⟩
theorem en_andV {W : Wld T} {ta tb : TE} {env : Env'} {c k : Nat} {P : D → Prop} (h1 : ED W ta env (.bl true)) (h2 : EN W tb env c k P) : EN W (tAndV ta tb) env c k P := fun G0 H0 σ G H A Q q =>
  h1 c G0 H0 σ G H A _ fun v G1 H1 s1 g1 j1 r1 => by
    cases r1
    refine ⟨true, rfl, (if_pos rfl).mpr ?_⟩
    exact h2 G0 H0 σ G1 H1 (A.step s1 g1 j1) Q fun v d G2 H2 s2 g2 j2 r2 p => q v d G2 H2 (s1.trans s2) g2 j2 r2 p
theorem asc_arc {many : Int} {p : Int × Int} : (arcF many p.1 p.2).length ≤ 2 * many.natAbs + (p.1.natAbs + p.2.natAbs) + 2 := by
  unfold arcF
  rw [(isI_perm _).length_eq]
  split
  · unfold rgD; rw [List.length_map, List.length_range]; omega
  · unfold rgD; rw [List.length_append, List.length_map, List.length_map, List.length_range, List.length_range]; omega
theorem nd_law_arcs_right : (["_law_state", "_law_many_here", "_law_pairs", "_law_turn", "_law_lots", "_law_pair", "_law_short_here", "_law_lot", "_law_due", "_law_gap", "_law_apart_here", "_law_best", "_law_spot", "_law_more", "_law_some", "_law_place"] : List PySem.Str).Nodup := by decide +kernel
theorem ok_law_arcs_right (M : Maths3) (F : Df K mg "_law_arcs_right" (top 35) ["_law_state", "_law_many_here"] (.ref c0)) (TB : TabB base mg c0 P0) (hT : (P0, ("_law_arcs_right.<locals>.<lambda>" : Str)) ∈ T) (hu1 : ∀ p ∈ T, p.1 = P0 → p.2 = ("_law_arcs_right.<locals>.<lambda>" : Str)) (B : Bn mg) (c_law_draw : Cal P w K mg base 3 "_law_draw" (SpSx T 1 fDraw) []) (c_law_size : Cal P w K mg base 27 "_law_size" (SpD T fSize) []) (c_law_arc_lot : Cal P w K mg base 2 "_law_arc_lot" (SpD T fArc) []) (c_law_cut_size : Cal P w K mg base 8 "_law_cut_size" (SpD T fCut) []) (c_law_lots_right : Cal P w K mg base 28 "_law_lots_right" (SpSx T 3 fLotsRight) []) : Cal P w K mg base (28 + 1) "_law_arcs_right" (SpSx T 20 fSt) [] := by
  have nd := nd_law_arcs_right
  refine calSx (N := ["_law_state", "_law_many_here", "_law_pairs", "_law_turn", "_law_lots", "_law_pair", "_law_short_here", "_law_lot", "_law_due", "_law_gap", "_law_apart_here", "_law_best", "_law_spot", "_law_more", "_law_some", "_law_place"]) F (by decide +kernel) ?len (fun a A outer s H E hr => ⟨_, (pss_cons (ps_set (i := 2) nd rfl (Or.inr rfl) (pe_lc rfl nd (pi_range1 rfl (by exact B.range) (pa_cons (pe_op op_add pe_int (pe_c c_law_draw hr (by omega) rfl (pa_cons (pv 0) (pa_cons pe_int pa_nil)))) pa_nil)) (blkOk_by (own := [("_law_turn", 3)]) (by rfl)) (fun _ _ _ _ _ => (pg_name (i := 3) nd rfl (Or.inl rfl))) (fun _ _ _ _ _ => pts_nil) (fun _ _ _ _ _ => (pe_tup (pa_cons (pe_c c_law_draw hr (by omega) rfl (pa_cons (pv 0) (pa_cons (pv 1) pa_nil))) (pa_cons (pe_c c_law_draw hr (by omega) rfl (pa_cons (pv 0) (pa_cons (pv 1) pa_nil))) pa_nil))))))
    (pss_cons (ps_set (i := 4) nd rfl (Or.inr rfl) (pe_lc rfl nd (kpi_list K (pv 2)) (blkOk_by (own := [("_law_pair", 5)]) (by rfl)) (fun _ _ _ _ _ => (pg_name (i := 5) nd rfl (Or.inl rfl))) (fun _ _ _ _ _ => pts_nil) (fun _ _ _ _ _ => (pe_c c_law_arc_lot hr (by omega) rfl (pa_cons (pv 1) (pa_cons (pv 5) pa_nil))))))
    (pss_cons (ps_set (i := 6) nd rfl (Or.inl rfl) (pe_minK (j := 7) (T := T) (k := 1) (keyInt _) rfl rfl (by exact B.min) (pv 4) TB rfl hT hu1 (hr.mono (by decide)) (lamS1_by (by rfl)) nd rfl rfl (fun _ _ _ _ _ _ => rfl) (fun _ _ _ _ hr => (pe_callB (klen K) rfl (by exact B.len) (by decide +kernel) (pa_cons (pv 7) pa_nil)))))
    (pss_cons (ps_set (i := 8) nd rfl (Or.inl rfl) (pe_callB (kmin K rfl) rfl (by exact B.min) (by decide +kernel) (pa_cons (pe_lc rfl nd (kpi_tup K (pv 6)) (blkOk_by (own := [("_law_gap", 9)]) (by rfl)) (fun _ _ _ _ _ => (pg_name (i := 9) nd rfl (Or.inl rfl))) (fun _ _ _ _ _ => pts_nil) (fun _ _ _ _ _ => (pe_c c_law_cut_size hr (by omega) rfl (pa_cons (pv 1) (pa_cons (pv 2) (pa_cons (pv 9) pa_nil)))))) pa_nil)))
    (pss_cons (ps_if (pt_cmpR (kne K hr.units) (pe_c c_law_size hr (by omega) rfl (pa_cons (pv 1) (pa_cons (pv 4) pa_nil))) (pv 8) (nomark _)) (pss_one (ps_ret pe_bl)) pss_nil)
    (pss_cons (ps_par (i := 10) (j := 11) rfl nd rfl rfl (by decide) rfl rfl (pa_cons (pe_lst (pa_cons (pe_tup pa_nil) pa_nil)) (pa_cons pe_int pa_nil)) (by rfl))
    (pss_cons (ps_for PassesOwn.never rfl (kpi_enum K rfl (by exact B.enumerate) (pa_cons (pv 4) pa_nil)) (pg_tup rfl (pgs_cons (pg_name (i := 12) nd rfl (Or.inl rfl)) (pgs_cons (pg_name (i := 7) nd rfl (Or.inr rfl)) pgs_nil))) (pss_cons (ps_set (i := 13) nd rfl (Or.inl rfl) (pe_lst pa_nil))
    (pss_cons (ps_for PassesOwn.never rfl (kpi_list K (pv 10)) (pg_name (i := 14) nd rfl (Or.inl rfl)) (pss_one (ps_if (pt_cmpR (keq K hr.units) (pe_lc rfl nd (kpi_tup K (pv 14)) (blkOk_by (own := [("_law_place", 15)]) (by rfl)) (fun _ _ _ _ _ => (pg_name (i := 15) nd rfl (Or.inl rfl))) (fun _ _ _ _ _ => (pts_one (pt_cmpR (kne K hr.units) (pe_lc rfl nd (kpi_tup K (pe_ix (kix K) (pv 4) (pv 15) (fun _ _ => rfl))) (blkOk_by (own := [("_law_gap", 9)]) (by rfl)) (fun _ _ _ _ _ => (pg_name (i := 9) nd rfl (Or.inl rfl))) (fun _ _ _ _ _ => (pts_one (pt_cmpR (kin K) (pv 9) (pv 7) (by rfl)))) (fun _ _ _ _ _ => (pv 9))) (pe_lst pa_nil) (nomark _)))) (fun _ _ _ _ _ => pe_int)) (pe_lst pa_nil) (nomark _)) (pss_one (ps_expr (pe_bm PySem.F.plainAttrs_list PySem.F.slot_list_append PySem.F.type_list_append mt_append (pv 13) (pa_cons (pe_op (kcatA K) (pv 14) (pe_tup (pa_cons (pv 12) pa_nil))) pa_nil)))) pss_nil)))
    (pss_one (ps_set (i := 10) nd rfl (Or.inl rfl) (pe_op op_cat (pv 10) (pv 13)))))))
    (pss_cons (ps_set (i := 11) nd rfl (Or.inl rfl) (pe_callB (kmax K rfl) rfl (by exact B.max) (by decide +kernel) (pa_cons (pe_lc rfl nd (kpi_list K (pv 10)) (blkOk_by (own := [("_law_some", 14)]) (by rfl)) (fun _ _ _ _ _ => (pg_name (i := 14) nd rfl (Or.inl rfl))) (fun _ _ _ _ _ => pts_nil) (fun _ _ _ _ _ => (pe_callB (klen K) rfl (by exact B.len) (by decide +kernel) (pa_cons (pv 14) pa_nil)))) pa_nil)))
    (pss_one (ps_ret (pe_and (pe_chain op_le op_le (pv 11) (pv 8) (pe_op op_add (pv 11) pe_int)) (pe_one (pe_c c_law_lots_right hr (by omega) rfl (pa_cons (pv 0) (pa_cons (pv 1) (pa_cons (pv 4) pa_nil)))))))))))))))), ?rd⟩)
  case len => rintro S ds d ⟨many, rfl, _⟩; rfl
  case rd =>
    rintro W0' S lw lc cells ds P c ⟨many, rfl, m0, m1, hP⟩ hc
    have hc : c + 20 ≤ 1099511627776 := hc
    refine tr_setN (n := 1 + 2 * 8) (en_mapN (n := 8) (k0 := 1) (ke := 2) (P0 := fun l => ∃ n : Int, (1 ≤ n ∧ n < 9) ∧ l = (List.range n.toNat).map fun (i : Nat) => .int i) (Pe := fun d => ∃ p : Int × Int, d = dP p ∧ 0 ≤ p.1 ∧ p.1 < many ∧ 0 ≤ p.2 ∧ p.2 < many) (srcN_range1 (c := c) (P := fun x => 1 ≤ x ∧ x < 9) (k := 1) (EAN.imp1 (k := 0 + 1 + 0) (ean_cons (en_op (P := fun d => ∃ x : Int, d = .int x ∧ 1 ≤ x ∧ x < 9) (ed_int (i := 1)).n (en_draw (n := 8) rfl ed_int (by decide) (by decide) (show c + 0 + 1 ≤ 1099511627776 by omega)) fun d1 d2 e1 ⟨x, e2, x0, x1⟩ => ⟨.int (1 + x), by rw [e1, e2]; exact rd_add, 1 + x, rfl, by omega, by omega⟩) ean_nil) fun ds ⟨d1, ds1, e1, ⟨x, e2, h⟩, e3⟩ => ⟨x, by rw [e1, e2, e3], h⟩) fun n h => by omega) (fun l ⟨n, hn, e⟩ => by rw [e, List.length_map, List.length_range]; omega) (by decide) fun l _ d _ c' hc' => ?_) ?_
    · refine EN.imp (k := 1 + (1 + 0)) (en_tup (ean_cons (en_draw (n := many) rfl (ed_var rfl) (by omega) (by omega) (by show c' + 1 ≤ 1099511627776; omega)) (ean_cons (en_draw (n := many) rfl (ed_var rfl) (by omega) (by omega) (by show c' + 1 + 1 ≤ 1099511627776; omega)) ean_nil)) ?_) (by omega) ?_
      · rintro ds ⟨d1, ds1, rfl, _, d2, ds2, rfl, _, rfl⟩; simp
      · rintro d ⟨ds, rfl, d1, ds1, rfl, ⟨x, rfl, hx⟩, d2, ds2, rfl, ⟨y, rfl, hy⟩, rfl⟩
        exact ⟨(x, y), rfl, hx.1, hx.2, hy.1, hy.2⟩
    rintro d ⟨l, ds, ⟨n, hn, rfl⟩, rfl, hl, hds⟩
    obtain ⟨ps, rfl, hps⟩ := pairs_of ds hds
    rw [List.length_map, List.length_map, List.length_range] at hl
    have hne : ps ≠ [] := fun z => by rw [z] at hl; simp at hl; omega
    have ok : PairsOk many ps := ⟨⟨m0, m1⟩, by omega, hps⟩
    obtain ⟨okl, hd1, hd2, hap⟩ := M.ar many ps ok hne
    have hpl := ok.2.1
    have hal : (arcLots many ps).length = ps.length := by unfold arcLots; rw [List.length_map]
    refine tr_set (d := dLL (arcLots many ps)) ((ed_map1 ps dP (fun p => dI (arcF many p.1 p.2)) (src_list (ed_var rfl)) (by omega) fun p hp => ed_call (f := fArc) (ea_cons (ed_var rfl) (ea_cons (ed_var rfl) ea_nil)) ⟨many, p, rfl, by have := hps p hp; omega, rfl⟩).eq (by unfold arcLots; rw [dLL, List.map_map]; rfl)) ?_
    refine tr_set (d := dI (shortF (arcLots many ps))) ?_ ?_
    · cases hlots : arcLots many ps with
      | nil => exact absurd (List.map_eq_nil_iff.mp hlots) hne
      | cons l0 r =>
      obtain ⟨i, hi, hm⟩ := pick_min swo_int (fun l : List Int => (l.length : Int)) [] r l0
      refine ed_minK (KO := keyInt _) keyD_int (i0 := i) (kf := fun i => (((l0 :: r).getD i []).length : Int)) (ed_var rfl) (fun i d hd => ?_) ?_ ?_
      · rw [List.getElem?_map] at hd
        cases h : (l0 :: r)[i]? with
        | none => rw [h] at hd; cases hd
        | some l =>
        rw [h] at hd
        cases hd
        have e : (l0 :: r).getD i [] = l := by rw [List.getD_eq_getElem?_getD, h]; rfl
        show ED _ _ _ (.int (((l0 :: r).getD i []).length : Int))
        rw [e]
        exact (ed_CB (ea_cons (ed_var rfl) ea_nil) rdl_lenT).eq (by rw [List.length_map])
      · rw [List.getElem?_map, hi]; rfl
      · rw [List.length_map]; exact hm
    have hsl : (shortF (arcLots many ps)).length ≤ 100 := by
      have hmem : shortF (arcLots many ps) ∈ arcLots many ps := by
        cases hlots : arcLots many ps with
        | nil => exact absurd (List.map_eq_nil_iff.mp hlots) hne
        | cons l0 r => exact pick_mem
      have := asc_len (many := many) (okl.1.lot hmem) (by omega)
      omega
    refine tr_set (d := .int ((leastF many (arcLots many ps)).length : Nat)) (ed_CB (ea_cons ((ed_map1 (shortF (arcLots many ps)) .int (fun g => .int (cutF many ps g : Nat)) (src_tup (ed_var rfl)) (by omega) fun g _ => ed_call (f := fCut) (ea_cons (ed_var rfl) (ea_cons (ed_var rfl) (ea_cons (ed_var rfl) ea_nil))) ⟨many, ps, g, rfl, ok, rfl⟩).eq (d' := dLI ((shortF (arcLots many ps)).map fun g => ((cutF many ps g : Nat) : Int))) (by rw [dLI, List.map_map]; rfl)) ea_nil) (rdl_minL hd1 hd2)) ?_
    refine tr_when (b := false) ((et_test (ed_op (ed_size (ea_cons (ed_var rfl) (ea_cons (ed_var rfl) ea_nil)) okl) (ed_var rfl) rd_neI)).eq (by rw [decide_eq_true rfl]; rfl)) (fun z => by cases z) fun _ => ?_
    refine tr_par (d1 := dLL [[]]) (d2 := .int 0) (ea_cons (ed_lst (ea_cons (ed_tup ea_nil (by decide)) ea_nil) (by simp)) (ea_cons ed_int ea_nil)) ?_
    refine tr_seq (fun e c3 => c3 = c + (1 + 2 * 8) ∧ ∃ s7 s9 s12 s13 s14 s15, e = [.dat (.raw (.ref S)), .dat (.int many), .dat (.lst (ps.map dP)), .emp, .dat (dLL (arcLots many ps)), .emp, .dat (dI (shortF (arcLots many ps))), s7, .dat (.int ((leastF many (arcLots many ps)).length : Nat)), s9, .dat (dLL (apN (arcLots many ps) ps.length)), .dat (.int 0), s12, s13, s14, s15]) ?_ ?_
    · refine tr_for (src_enum (ea_cons (ed_var rfl) ea_nil)).n ?_
      rintro _ rfl
      refine ⟨fun i e c3 => i ≤ ps.length ∧ c3 = c + (1 + 2 * 8) ∧ ∃ s7 s9 s12 s13 s14 s15, e = [.dat (.raw (.ref S)), .dat (.int many), .dat (.lst (ps.map dP)), .emp, .dat (dLL (arcLots many ps)), .emp, .dat (dI (shortF (arcLots many ps))), s7, .dat (.int ((leastF many (arcLots many ps)).length : Nat)), s9, .dat (dLL (apN (arcLots many ps) i)), .dat (.int 0), s12, s13, s14, s15], ⟨Nat.zero_le _, rfl, _, _, _, _, _, _, rfl⟩, ?_, ?_⟩
      · rintro i d e c3 hd ⟨hi, ec3, s7, s9, s12, s13, s14, s15, rfl⟩
        rw [List.getElem?_map, List.getElem?_zipIdx, List.getElem?_map] at hd
        cases h : (arcLots many ps)[i]? with
        | none => rw [h] at hd; cases hd
        | some lot =>
        rw [h] at hd
        cases hd
        have hil : i < ps.length := by rw [← hal]; exact (List.getElem?_eq_some_iff.mp h).1
        have e0 : ((0 + i : Nat) : Int) = (i : Int) := by omega
        have hgd : (arcLots many ps).getD i [] = lot := by rw [List.getD_eq_getElem?_getD, h]; rfl
        have hA := apN_len (arcLots many ps) i
        have hA2 : 2 ^ i ≤ 2 ^ 8 := Nat.pow_le_pow_right (by decide) (by omega)
        have hA2 : 2 ^ i ≤ 256 := hA2
        have hAi := apN_in (arcLots many ps) i
        refine ⟨_, tg_tup2, ?_⟩
        refine tr_new (by simp) ?_
        refine tr_seq (fun e c4 => c4 = c + (1 + 2 * 8) ∧ ∃ s9 s14 s15, e = [.dat (.raw (.ref S)), .dat (.int many), .dat (.lst (ps.map dP)), .emp, .dat (dLL (arcLots many ps)), .emp, .dat (dI (shortF (arcLots many ps))), .dat (dI lot), .dat (.int ((leastF many (arcLots many ps)).length : Nat)), s9, .dat (dLL (apN (arcLots many ps) i)), .dat (.int 0), .dat (.int (0 + i : Nat)), .mu ((((apN (arcLots many ps) i).filter fun s => okAp (arcLots many ps) s lot).map fun s => s ++ [(i : Int)]).map dI), s14, s15]) ?_ ?_
        · refine tr_for (src_list (ed_var rfl)).n ?_
          rintro _ rfl
          refine ⟨fun j e c4 => j ≤ (apN (arcLots many ps) i).length ∧ c4 = c + (1 + 2 * 8) ∧ ∃ s9 s14 s15, e = [.dat (.raw (.ref S)), .dat (.int many), .dat (.lst (ps.map dP)), .emp, .dat (dLL (arcLots many ps)), .emp, .dat (dI (shortF (arcLots many ps))), .dat (dI lot), .dat (.int ((leastF many (arcLots many ps)).length : Nat)), s9, .dat (dLL (apN (arcLots many ps) i)), .dat (.int 0), .dat (.int (0 + i : Nat)), .mu (((((apN (arcLots many ps) i).take j).filter fun s => okAp (arcLots many ps) s lot).map fun s => s ++ [(i : Int)]).map dI), s14, s15], ⟨Nat.zero_le _, ec3, s9, s14, s15, rfl⟩, ?_, ?_⟩
          · rintro j d e c4 hd ⟨hj, ec4, s9, s14, s15, rfl⟩
            rw [List.getElem?_map] at hd
            cases hs : (apN (arcLots many ps) i)[j]? with
            | none => rw [hs] at hd; cases hd
            | some s =>
            rw [hs] at hd
            cases hd
            obtain ⟨hjl, hge⟩ := List.getElem?_eq_some_iff.mp hs
            have hsm := List.mem_of_getElem? hs
            obtain ⟨hsl2, hsb⟩ := hAi s hsm
            have htk : (apN (arcLots many ps) i).take (j + 1) = (apN (arcLots many ps) i).take j ++ [s] := by rw [List.take_succ_eq_append_getElem hjl, hge]
            refine ⟨_, tg_name, tr_if (b := okAp (arcLots many ps) s lot) ?_ (fun z => ?_) fun z => ?_⟩
            · refine (et_test (ed_op ((ed_lc1 s .int (fun j => !decide ((((arcLots many ps).getD j.toNat []).filter fun g => decide (g ∈ lot)) = [])) (fun _ => .int 1) (src_tup (ed_var rfl)) (by omega) (fun x hx => ?_) fun x _ _ => ed_int).eq (d' := dLI ((s.filter fun j => !decide ((((arcLots many ps).getD j.toNat []).filter fun g => decide (g ∈ lot)) = [])).map fun _ => (1 : Int))) (by rw [dLI, List.map_map]; rfl)) (ed_lst ea_nil (by decide)) (rd_eqD (b := dLI []) (n := 1) (m := 1) ok_dLI ok_dLI))).eq (by rw [eqv_dLI]; rfl)
              obtain ⟨x0, x1⟩ := hsb x hx
              have hxl : x.toNat < (arcLots many ps).length := by rw [hal]; omega
              have ex : D.int x = .int (x.toNat : Nat) := by congr 1; omega
              have hlx := asc_len (many := many) (okl.1.lot (getD_mem (d := []) hxl)) (by omega)
              exact (et_test (ed_op (ed_lc1 ((arcLots many ps).getD x.toNat []) .int (fun g => decide (g ∈ lot)) .int (src_tup (ed_op (ed_var rfl) ((ed_var rfl).eq ex) (rd_ixL (at_lot hxl)))) (by omega) (fun g _ => et_test (ed_op (ed_var rfl) (ed_var rfl) (rd_inT (neg := false)))) fun g _ _ => ed_var rfl) (ed_lst ea_nil (by decide)) (rd_neD (a := dLI _) (b := dLI []) (n := 1) (m := 1) ok_dLI ok_dLI))).eq (by rw [eqv_dLI])
            · refine tr_app1 (d := dI (s ++ [(i : Int)])) rfl ?_ ((ed_op (ed_var rfl) (ed_tup (ea_cons (ed_var rfl) ea_nil) (by simp)) (rd_catA ?_)).eq ?_) ⟨by omega, ec4, s9, .dat (dI s), s15, ?_⟩
              · rw [List.length_map, List.length_map]
                have := List.length_filter_le (fun s => okAp (arcLots many ps) s lot) ((apN (arcLots many ps) i).take j)
                rw [List.length_take] at this
                omega
              · rw [List.length_map, List.length_singleton]; omega
              · rw [dI, List.map_append, e0]; rfl
              · rw [htk, List.filter_append, List.map_append, List.map_append]
                have : [s].filter (fun s => okAp (arcLots many ps) s lot) = [s] := by rw [List.filter_cons, if_pos z]; rfl
                rw [this]
                rfl
            · refine tr_next ⟨by omega, ec4, s9, .dat (dI s), s15, ?_⟩
              rw [htk, List.filter_append, List.map_append, List.map_append]
              have : [s].filter (fun s => okAp (arcLots many ps) s lot) = [] := by rw [List.filter_cons, if_neg (by rw [z]; simp)]; rfl
              rw [this, List.map_nil, List.map_nil, List.append_nil]
              rfl
          · rintro e c4 ⟨hj, ec4, s9, s14, s15, rfl⟩
            rw [List.length_map, List.take_length]
            exact ⟨ec4, _, _, _, rfl⟩
        · rintro e c4 ⟨ec4, s9, s14, s15, rfl⟩
          refine tr_frz (i := 13) rfl ?_
          refine tr_set1 (d := dLL (apN (arcLots many ps) (i + 1))) ((ed_op (ed_var rfl) (ed_var rfl) (rd_cat ?_)).eq ?_) ⟨hil, ec4, _, _, _, _, _, _, rfl⟩
          · rw [List.length_map, List.length_map, List.length_map]
            have := List.length_filter_le (fun s => okAp (arcLots many ps) s lot) (apN (arcLots many ps) i)
            omega
          · rw [← List.map_append, apN, hgd]
      · rintro e c3 ⟨hi, ec3, s7, s9, s12, s13, s14, s15, rfl⟩
        rw [List.length_map, List.length_zipIdx, List.length_map, hal]
        exact ⟨ec3, _, _, _, _, _, _, rfl⟩
    · rintro e c3 ⟨ec3, s7, s9, s12, s13, s14, s15, rfl⟩
      obtain ⟨b, hb1, hb2⟩ := max_ex ((apN (arcLots many ps) ps.length).map fun s => ((s.length : Nat) : Int)) (fun z => apN_ne _ _ (List.map_eq_nil_iff.mp z))
      obtain ⟨hb3, hb4⟩ := hap b hb1 hb2
      have hA := apN_len (arcLots many ps) ps.length
      have hA2 : 2 ^ ps.length ≤ 2 ^ 8 := Nat.pow_le_pow_right (by decide) (by omega)
      have hA2 : 2 ^ ps.length ≤ 256 := hA2
      refine tr_set (d := .int b) (ed_CB (ea_cons ((ed_map1 (apN (arcLots many ps) ps.length) dI (fun s => .int ((s.map D.int).length : Nat)) (src_list (ed_var rfl)) (by omega) fun s _ => ed_CB (ea_cons (ed_var rfl) ea_nil) rdl_lenT).eq (d' := dLI ((apN (arcLots many ps) ps.length).map fun s => ((s.length : Nat) : Int))) (by rw [dLI, List.map_map]; congr 1; exact List.map_congr_left fun s _ => by rw [List.length_map]; rfl)) ea_nil) (rdl_maxL hb1 hb2)) ?_
      refine tr_retN (n := 3) (P := fun d => d = .bl true) (en_andV ((et_chain (ed_var rfl) (ed_var rfl) (fun _ => ed_op (ed_var rfl) ed_int rd_add) rd_le fun _ => rd_le).eq (by rw [decide_eq_true hb3, decide_eq_true hb4]; rfl)) (en_lotsRight (ea_cons (ed_var rfl) (ea_cons (ed_var rfl) (ea_cons (ed_var rfl) ea_nil))) okl (fun z => hne (List.map_eq_nil_iff.mp z)) (by omega) (by show c3 + 3 ≤ 1099511627776; omega))) ?_
      rintro d rfl
      exact ⟨hP, by omega⟩
end
end K43


set_option Elab.async false
set_option linter.all false
set_option maxRecDepth 100000
set_option maxHeartbeats 4000000
/-! The law. -/
namespace K43
open PySem PySem.Spec PyProof.Rows L2 LamX C8 Fx
section
variable {P : Program} {w : World} {K : PySem.W.Frag} {mg : Str → Option Value} {base : Heap} {T : List (Addr × Str)} {cdv : Value} {c0 P0 : Addr}
def movF (l : List (List Int)) : List (List Int) := l.map fun l => l.map fun g => g + 4
structure Maths4 : Prop where
  un : ∀ l1 l2 : List (List Int), l1.length ≤ 7 → l2.length ≤ 7 → (∀ l ∈ l1, Asc 4 l ∧ l ≠ []) → (∀ l ∈ l2, Asc 5 l ∧ l ≠ []) → Lots 4 l1 ∧ Lots 5 l2 ∧ Lots 9 (l1 ++ movF l2) ∧ leastF 9 (l1 ++ movF l2) = leastF 4 l1 ++ (leastF 5 l2).map fun g => g + 4
  fin : Lots 3 [[0, 1], [1, 2], [0, 2]] ∧ leastF 3 [[0, 1], [1, 2], [0, 2]] = [0, 1]
def SpLaw (T : List (Addr × Str)) (K : PySem.W.Frag) : Sp := fun vs H Q _ => ∃ (a : Addr) (ns : List Int), vs = [.ref a] ∧ LamX.Tabs T H ∧ SqL K H a (ns.map V.int) ∧ ns.length ≤ 63 ∧ ∀ H', Q (.bl true) H'
theorem At.drawn {W : Wld T} {G0 : Hp × Hp} {H0 G H G2 H2 : Hp} {c : Nat} {σ : L2.St} {env : Env'} {S lw lc : Addr} {cells ws : List Int} (A : At W G0 H0 c G H σ env) (nm : ∀ (i : Nat) (ds : List D), env[i]? ≠ some (.mu ds)) (s : Stp W G H G2 H2) (g : GOk W G2 H2) (j : W.J 0 H2) (d : DrSt W.M S lw lc cells 0 H2 ws 0 0) (n1 : G2 S = none) (n2 : G2 lw = none) (n3 : G2 lc = none) : At (WDr W S lw lc cells) G0 H0 0 G2 H2 σ env := by
  have st := A.st.trans s
  refine ⟨⟨st.gg, fun a o h m n => st.hh a o h (fun z => m (.inl z)) n, st.fr, st.dom⟩, A.sb.trans s.gg, fun a o h => ?_, ⟨j, ws, 0, 0, d⟩, ⟨A.env.len, fun i d h => ?_, fun i ds h => absurd h (nm i ds), fun i _ ds _ _ _ h => absurd h (nm i ds)⟩⟩
  · obtain ⟨h1, h2, h3⟩ := g a o h
    refine ⟨h1, h2, fun m => ?_⟩
    rcases m with m | rfl | rfl | rfl
    · exact h3 m
    · rw [n1] at h; cases h
    · rw [n2] at h; cases h
    · rw [n3] at h; cases h
  · obtain ⟨v, e, r⟩ := A.env.dat i d h
    exact ⟨v, e, r.mono s.gg⟩
theorem rdl_lenS {a : Addr} {ns : List Int} {Pm : Prop} {S lw lc : Addr} {cells : List Int} : RDL (WDr (WS T K a ns Pm) S lw lc cells) (fun xs H Q => ∃ p ys, xs = [.ref p] ∧ (SqL K H p ys ∨ SqT K H p ys) ∧ Q (.int ys.length) H) [.raw (.ref a)] (.int (ns.length : Nat)) := fun c G H vs g j r Q q => by
  cases r with
  | cons r1 r2 =>
  cases r2
  cases r1
  refine ⟨a, _, rfl, .inl (ws_sq j.1), ?_⟩
  rw [List.length_map]
  exact q.here g j (.int _)
theorem etn_not {W : Wld T} {t : TT} {env : Env'} {c k : Nat} {P P' : Bool → Prop} (h : ETN W t env c k P) (hp : ∀ b, P b → P' (!b)) : ETN W (tNot t) env c k P' := fun G0 H0 σ G H A Q q =>
  h G0 H0 σ G H A _ fun b G1 H1 s1 g1 j1 p => q (!b) G1 H1 s1 g1 j1 (hp b p)
theorem en_true {W : Wld T} {te : TE} {env : Env'} {c k : Nat} (h : EN W te env c k (fun d => d = .bl true)) : ETN W (tB te) env c k (fun b => b = true) := etn_test (h.imp (Nat.le_refl _) fun d e => ⟨true, e, rfl⟩)
theorem nd_law : (["_law_script", "_law_state", "_law_turn", "_law_many_here", "_law_one", "_law_two", "_law_lot", "_law_moved", "_law_gap"] : List PySem.Str).Nodup := by decide +kernel
theorem ok_law (M1 : Maths) (M4 : Maths4) {fa : Addr} {fd : FuncData} (F : FunD K "law" "law" (fnArgs (top 38)) (fnBody (top 38)) (fnScope (top 38)) [] [] fa fd) (B : Bn mg) (c_law_draw : Cal P w K mg base 3 "_law_draw" (SpSx T 1 fDraw) []) (c_law_begun : Cal P w K mg base 2 "_law_begun" (SpBegunX T K) []) (c_law_stretches_right : Cal P w K mg base 29 "_law_stretches_right" (SpSx T 20 fSt) []) (c_law_arcs_right : Cal P w K mg base 29 "_law_arcs_right" (SpSx T 20 fSt) []) (c_law_drawn_lots : Cal P w K mg base 4 "_law_drawn_lots" (SpSx T 200 fDrawn) []) (c_law_size : Cal P w K mg base 27 "_law_size" (SpD T fSize) []) (c_least_hits : Cal P w K mg base 26 "least_hits" (SpD T fLeast) []) : FnOk P w K mg base C8.CX0 (29 + 1) fa fd ["_law_script"] (SpLaw T K) := by
  have nd := nd_law
  refine fn_raw (N := ["_law_script", "_law_state", "_law_turn", "_law_many_here", "_law_one", "_law_two", "_law_lot", "_law_moved", "_law_gap"]) F (by decide +kernel) ?len (fun cdv a A outer s H E hr => ⟨_, (pss_cons (ps_set (i := 1) nd rfl (Or.inl rfl) (pe_c c_law_begun hr (by omega) rfl (pa_cons (pv 0) pa_nil)))
    (pss_cons (ps_for PassesOwn.never rfl (pi_range1 rfl (by exact B.range) (pa_cons (pe_op op_add pe_int (pe_callB (call_min2 rfl) rfl (by exact B.min) (by decide +kernel) (pa_cons (pe_callB (klen K) rfl (by exact B.len) (by decide +kernel) (pa_cons (pv 0) pa_nil)) (pa_cons pe_int pa_nil)))) pa_nil)) (pg_name (i := 2) nd rfl (Or.inl rfl)) (pss_cons (ps_set (i := 3) nd rfl (Or.inl rfl) (pe_op op_add pe_int (pe_c c_law_draw hr (by omega) rfl (pa_cons (pv 1) (pa_cons pe_int pa_nil)))))
    (pss_cons (ps_if (PW.pt (pw_or (pt_not (pt_val (pe_c c_law_stretches_right hr (by omega) rfl (pa_cons (pv 1) (pa_cons (pv 3) pa_nil))))) (pw_or1 (pt_not (pt_val (pe_c c_law_arcs_right hr (by omega) rfl (pa_cons (pv 1) (pa_cons (pv 3) pa_nil)))))))) (pss_one (ps_ret pe_bl)) pss_nil)
    (pss_cons (ps_par (i := 4) (j := 5) rfl nd rfl rfl (by decide) rfl rfl (pa_cons (pe_c c_law_drawn_lots hr (by omega) rfl (pa_cons (pv 1) (pa_cons pe_int pa_nil))) (pa_cons (pe_c c_law_drawn_lots hr (by omega) rfl (pa_cons (pv 1) (pa_cons pe_int pa_nil))) pa_nil)) (by rfl))
    (pss_cons (ps_par (i := 4) (j := 5) rfl nd rfl rfl (by decide) rfl rfl (pa_cons (pe_lc rfl nd (kpi_list K (pv 4)) (blkOk_by (own := [("_law_lot", 6)]) (by rfl)) (fun _ _ _ _ _ => (pg_name (i := 6) nd rfl (Or.inl rfl))) (fun _ _ _ _ _ => (pts_one (pt_cmpR (kne K hr.units) (pv 6) (pe_tup pa_nil) (nomark _)))) (fun _ _ _ _ _ => (pv 6))) (pa_cons (pe_lc rfl nd (kpi_list K (pv 5)) (blkOk_by (own := [("_law_lot", 6)]) (by rfl)) (fun _ _ _ _ _ => (pg_name (i := 6) nd rfl (Or.inl rfl))) (fun _ _ _ _ _ => (pts_one (pt_cmpR (kne K hr.units) (pv 6) (pe_tup pa_nil) (nomark _)))) (fun _ _ _ _ _ => (pv 6))) pa_nil)) (by rfl))
    (pss_cons (ps_setLc (i := 7) rfl nd rfl rfl (sw_true rfl rfl rfl (by decide +kernel)) (kpi_list K (pv 5)) (blkOk_by (own := [("_law_lot", 6)]) (by rfl)) (fun _ _ _ _ _ => (pg_name (i := 6) nd rfl (Or.inl rfl))) (fun _ _ _ _ _ => pts_nil) (fun _ _ _ _ _ => (pe_callTy (ktuple K) rfl (by exact B.tuple) (by decide +kernel) (pa_cons (pe_lc rfl nd (kpi_tup K (pv 6)) (blkOk_by (own := [("_law_gap", 8)]) (by rfl)) (fun _ _ _ _ _ => (pg_name (i := 8) nd rfl (Or.inl rfl))) (fun _ _ _ _ _ => pts_nil) (fun _ _ _ _ _ => (pe_op op_add (pv 8) pe_int))) pa_nil))))
    (pss_cons (ps_if (pt_cmpR (kne K hr.units) (pe_c c_law_size hr (by omega) rfl (pa_cons pe_int (pa_cons (pe_op op_cat (pv 4) (pv 7)) pa_nil))) (pe_op op_add (pe_c c_law_size hr (by omega) rfl (pa_cons pe_int (pa_cons (pv 4) pa_nil))) (pe_c c_law_size hr (by omega) rfl (pa_cons pe_int (pa_cons (pv 5) pa_nil)))) (nomark _)) (pss_one (ps_ret pe_bl)) pss_nil)
    (pss_one (ps_if (pt_cmpR (kne K hr.units) (pe_c c_least_hits hr (by omega) rfl (pa_cons pe_int (pa_cons (pe_op op_cat (pv 4) (pv 7)) pa_nil))) (pe_op (kcatA K) (pe_c c_least_hits hr (by omega) rfl (pa_cons pe_int (pa_cons (pv 4) pa_nil))) (pe_callTy (ktuple K) rfl (by exact B.tuple) (by decide +kernel) (pa_cons (pe_lc rfl nd (kpi_tup K (pe_c c_least_hits hr (by omega) rfl (pa_cons pe_int (pa_cons (pv 5) pa_nil)))) (blkOk_by (own := [("_law_gap", 8)]) (by rfl)) (fun _ _ _ _ _ => (pg_name (i := 8) nd rfl (Or.inl rfl))) (fun _ _ _ _ _ => pts_nil) (fun _ _ _ _ _ => (pe_op op_add (pv 8) pe_int))) pa_nil))) (nomark _)) (pss_one (ps_ret pe_bl)) pss_nil)))))))))
    (pss_one (ps_ret (pe_cmpR (keq K hr.units) (pe_c c_least_hits hr (by omega) rfl (pa_cons pe_int (pa_cons (pe_lst (pa_cons (pe_tup (pa_cons pe_int (pa_cons pe_int pa_nil))) (pa_cons (pe_tup (pa_cons pe_int (pa_cons pe_int pa_nil))) (pa_cons (pe_tup (pa_cons pe_int (pa_cons pe_int pa_nil))) pa_nil)))) pa_nil))) (pe_tup (pa_cons pe_int (pa_cons pe_int pa_nil))) (nomark _)))))), ?rd⟩)
  case len => rintro vs H Q E ⟨_, _, rfl, _⟩; rfl
  case rd =>
    rintro vs Q ⟨sa, ns, rfl, tb, hsq, hns, hQ⟩
    have j0 := ws_start (c := 0) tb hsq
    have g0 : GOk (WS T K sa ns (Rd H sa (.lst (ns.map V.int)))) (fun _ => none) H := fun a o h => by cases h
    have A := at_start (c := 0) (N := ["_law_script", "_law_state", "_law_turn", "_law_many_here", "_law_one", "_law_two", "_law_lot", "_law_moved", "_law_gap"]) (ds := [.raw (.ref sa)]) g0 j0 (.cons (.raw (.ref sa)) .nil) (by simp)
    refine seq_asg ⟨.ref sa, rfl, sa, ns, _, by omega, rfl, _, 0, g0, j0, fun S lw lc ws cells G2 H2 s2 g2 j2 d hcells n1 n2 n3 => ?_⟩
    have A2 := At.drawn A (fun i ds h => env0_mu h) s2 g2 j2 d n1 n2 n3
    have A3 := A2.setD 1 (.raw (.ref S))
    refine tr_seq (W := WDr (WS T K sa ns (Rd H sa (.lst (ns.map V.int)))) S lw lc cells) (po := ⟨fun _ _ => False, fun d _ => d = .bl true, fun _ _ => False, fun _ _ => False⟩) (fun e c => ∃ s2 s3 s4 s5 s6 s7 s8, e = [.dat (.raw (.ref sa)), .dat (.raw (.ref S)), s2, s3, s4, s5, s6, s7, s8]) ?_ ?_ _ _ _ _ _ A3 _ ⟨fun _ _ _ _ _ _ z => z.elim, fun v d c2 G3 H3 s g j r e => (by subst e; cases r; exact hQ H3), fun _ _ _ _ _ _ z => z.elim, fun _ _ _ _ _ _ z => z.elim⟩
    · refine tr_for (src_range1 (ea_cons (ed_op ed_int (ed_CB (ea_cons (ed_CB (ea_cons (ed_var rfl) ea_nil) rdl_lenS) (ea_cons ed_int ea_nil)) rdl_min2) rd_add) ea_nil) (by omega)).n ?_
      rintro _ rfl
      refine ⟨fun i e c => i ≤ 6 ∧ c ≤ 500 * i ∧ ∃ s2 s3 s4 s5 s6 s7 s8, e = [.dat (.raw (.ref sa)), .dat (.raw (.ref S)), s2, s3, s4, s5, s6, s7, s8], ⟨by omega, by omega, _, _, _, _, _, _, _, rfl⟩, ?_, fun e c ⟨_, _, h⟩ => h⟩
      rintro i d e c hd ⟨hi, hc, s2, s3, s4, s5, s6, s7, s8, rfl⟩
      have hil : i < 6 := by
        have := (List.getElem?_eq_some_iff.mp hd).1
        rw [List.length_map, List.length_range] at this
        omega
      refine ⟨_, tg_name, ?_⟩
      refine tr_setN (n := 0 + 1) (P := fun d => ∃ m : Int, d = .int m ∧ 4 ≤ m ∧ m ≤ 12) (en_op (ed_int (i := 4)).n (EN.lift (k := 0 + 1) (en_callX (n := 0) (f := fDraw) (P := fun d => ∃ x : Int, d = .int x ∧ 0 ≤ x ∧ x < 9) (ean_cons (ed_var rfl).n (ean_cons (ed_int (i := 9)).n ean_nil)) (fun ds ⟨d1, ds1, e1, e2, d2, ds2, e3, e4, e5⟩ => ⟨9, by rw [e1, e2, e3, e4, e5], by decide, by decide, fun x x0 x1 => ⟨x, rfl, x0, x1⟩⟩) (by show c + 0 + 0 + 1 ≤ 1099511627776; omega)) (by omega)) fun d1 d2 e1 ⟨x, e2, x0, x1⟩ => ⟨.int (4 + x), by rw [e1, e2]; exact rd_add, 4 + x, rfl, by omega, by omega⟩) ?_
      rintro _ ⟨many, rfl, m0, m1⟩
      refine tr_whenN (n := (0 + 20) + (0 + 20)) (P := fun b => b = false) (etn_or (P1 := fun b => b = false) (etn_not (P := fun b => b = true) (en_true (en_callX (n := 0) (f := fSt) (ean_cons (ed_var rfl).n (ean_cons (ed_var rfl).n ean_nil)) (fun ds ⟨d1, ds1, e1, e2, d2, ds2, e3, e4, e5⟩ => ⟨many, by rw [e1, e2, e3, e4, e5], m0, m1, rfl⟩) (by show c + (0 + 1) + 0 + 20 ≤ 1099511627776; omega))) fun b e => by rw [e]; rfl) (fun z => by cases z) fun _ =>
        etn_not (P := fun b => b = true) (en_true (en_callX (n := 0) (f := fSt) (ean_cons (ed_var rfl).n (ean_cons (ed_var rfl).n ean_nil)) (fun ds ⟨d1, ds1, e1, e2, d2, ds2, e3, e4, e5⟩ => ⟨many, by rw [e1, e2, e3, e4, e5], m0, m1, rfl⟩) (by show c + (0 + 1) + (0 + 20) + 0 + 20 ≤ 1099511627776; omega))) fun b e => by rw [e]; rfl) (fun z => by cases z) fun _ => ?_
      refine tr_parN (n := (0 + 200) + ((0 + 200) + 0)) (P := fun ds => ∃ l1 l2 : List (List Int), ds = [dLL l1, dLL l2] ∧ (l1.length ≤ 7 ∧ ∀ l ∈ l1, Asc 4 l) ∧ (l2.length ≤ 7 ∧ ∀ l ∈ l2, Asc 5 l)) (EAN.imp1 (ean_cons (P := fun d => ∃ l1 : List (List Int), d = dLL l1 ∧ (l1.length ≤ 7 ∧ ∀ l ∈ l1, Asc 4 l)) (en_callX (n := 0) (f := fDrawn) (ean_cons (ed_var rfl).n (ean_cons (ed_int (i := 4)).n ean_nil)) (fun ds ⟨d1, ds1, e1, e2, d2, ds2, e3, e4, e5⟩ => ⟨4, by rw [e1, e2, e3, e4, e5], by decide, by decide, fun l h1 h2 => ⟨l, rfl, h1, h2⟩⟩) (by show c + (0 + 1) + ((0 + 20) + (0 + 20)) + 0 + 200 ≤ 1099511627776; omega))
        (ean_cons (P := fun d => ∃ l1 : List (List Int), d = dLL l1 ∧ (l1.length ≤ 7 ∧ ∀ l ∈ l1, Asc 5 l)) (en_callX (n := 0) (f := fDrawn) (ean_cons (ed_var rfl).n (ean_cons (ed_int (i := 5)).n ean_nil)) (fun ds ⟨d1, ds1, e1, e2, d2, ds2, e3, e4, e5⟩ => ⟨5, by rw [e1, e2, e3, e4, e5], by decide, by decide, fun l h1 h2 => ⟨l, rfl, h1, h2⟩⟩) (by show c + (0 + 1) + ((0 + 20) + (0 + 20)) + (0 + 200) + 0 + 200 ≤ 1099511627776; omega)) ean_nil)) fun ds ⟨d1, ds1, e1, ⟨l1, e2, h1⟩, d2, ds2, e3, ⟨l2, e4, h2⟩, e5⟩ => ⟨l1, l2, by rw [e1, e2, e3, e4, e5], h1, h2⟩) ?_
      rintro _ ⟨l1, l2, rfl, ⟨h1a, h1b⟩, ⟨h2a, h2b⟩⟩
      refine ⟨_, _, rfl, ?_⟩
      refine tr_par (d1 := dLL (l1.filter fun l => !decide (l = []))) (d2 := dLL (l2.filter fun l => !decide (l = []))) (ea_cons (ed_lc1 l1 dI (fun l => !decide (l = [])) dI (src_list (ed_var rfl)) (by omega) (fun l _ => (et_test (ed_op (ed_var rfl) (ed_tup ea_nil (by decide)) (rd_neD (a := dI l) (b := dI []) (n := 1) (m := 1) ok_dI ok_dI))).eq (by rw [eqv_dI])) fun l _ _ => ed_var rfl) (ea_cons (ed_lc1 l2 dI (fun l => !decide (l = [])) dI (src_list (ed_var rfl)) (by omega) (fun l _ => (et_test (ed_op (ed_var rfl) (ed_tup ea_nil (by decide)) (rd_neD (a := dI l) (b := dI []) (n := 1) (m := 1) ok_dI ok_dI))).eq (by rw [eqv_dI])) fun l _ _ => ed_var rfl) ea_nil)) ?_
      have f1 := List.length_filter_le (fun l : List Int => !decide (l = [])) l1
      have f2 := List.length_filter_le (fun l : List Int => !decide (l = [])) l2
      obtain ⟨ok1, ok2, ok9, eu⟩ := M4.un (l1.filter fun l => !decide (l = [])) (l2.filter fun l => !decide (l = [])) (by omega) (by omega) (fun l hl => ⟨h1b l (List.mem_filter.mp hl).1, by simpa using (List.mem_filter.mp hl).2⟩) (fun l hl => ⟨h2b l (List.mem_filter.mp hl).1, by simpa using (List.mem_filter.mp hl).2⟩)
      generalize l1.filter (fun l => !decide (l = [])) = k1 at *
      generalize l2.filter (fun l => !decide (l = [])) = k2 at *
      have hk2 : ∀ l ∈ k2, l.length ≤ 100 := fun l hl => by have := asc_len (many := 5) (ok2.1.lot hl) (by decide); omega
      refine tr_set (d := dLL (movF k2)) ((ed_map1 k2 dI (fun l => dI (l.map fun g => g + 4)) (src_list (ed_var rfl)) (by omega) fun l hl => ed_CB (ea_cons ((ed_map1 l .int (fun g => .int (g + 4)) (src_tup (ed_var rfl)) (by have := hk2 l hl; omega) fun g _ => ed_op (ed_var rfl) ed_int rd_add).eq (d' := dLI (l.map fun g => g + 4)) (by rw [dLI, List.map_map]; rfl)) ea_nil) rdl_tupL).eq (by unfold movF; rw [dLL, List.map_map]; rfl)) ?_
      have hml : (movF k2).length = k2.length := by unfold movF; rw [List.length_map]
      refine tr_when (b := false) ((et_test (ed_op (ed_size (ea_cons ed_int (ea_cons ((ed_op (ed_var rfl) (ed_var rfl) (rd_cat (by rw [List.length_map, List.length_map]; omega))).eq (d' := dLL (k1 ++ movF k2)) (by rw [dLL, List.map_append])) ea_nil)) ok9) (ed_op (ed_size (ea_cons ed_int (ea_cons (ed_var rfl) ea_nil)) ok1) (ed_size (ea_cons ed_int (ea_cons (ed_var rfl) ea_nil)) ok2) rd_add) rd_neI)).eq ?_) (fun z => by cases z) fun _ => ?_
      · rw [eu, List.length_append, List.length_map, decide_eq_true (by omega)]; rfl
      have h5 : (leastF 5 k2).length ≤ 100 := by have := (M1.hit 5 k2 ok2).1; omega
      have h4 : (leastF 4 k1).length ≤ 100 := by have := (M1.hit 4 k1 ok1).1; omega
      refine tr_if (b := false) ((et_test (ed_op (ed_least M1 (ea_cons ed_int (ea_cons ((ed_op (ed_var rfl) (ed_var rfl) (rd_cat (by rw [List.length_map, List.length_map]; omega))).eq (d' := dLL (k1 ++ movF k2)) (by rw [dLL, List.map_append])) ea_nil)) ok9) ((ed_op (ed_least M1 (ea_cons ed_int (ea_cons (ed_var rfl) ea_nil)) ok1) (ed_CB (ea_cons ((ed_map1 (leastF 5 k2) .int (fun g => .int (g + 4)) (src_tup (ed_least M1 (ea_cons ed_int (ea_cons (ed_var rfl) ea_nil)) ok2)) (by omega) fun g _ => ed_op (ed_var rfl) ed_int rd_add).eq (d' := dLI ((leastF 5 k2).map fun g => g + 4)) (by rw [dLI, List.map_map]; rfl)) ea_nil) rdl_tupL) (rd_catA (by rw [List.length_map, List.length_map, List.length_map]; omega))).eq (d' := dI (leastF 4 k1 ++ (leastF 5 k2).map fun g => g + 4)) (by rw [dI, List.map_append])) (rd_neD (n := 1) (m := 1) ok_dI ok_dI))).eq (by rw [eqv_dI, eu, decide_eq_true rfl]; rfl)) (fun z => by cases z) fun _ => tr_next ⟨by omega, by omega, _, _, _, _, _, _, _, rfl⟩
    · rintro e c ⟨s2, s3, s4, s5, s6, s7, s8, rfl⟩
      refine tr_ret (d := .bl true) ((ed_op (ed_least (lots := [[0, 1], [1, 2], [0, 2]]) M1 (ea_cons ed_int (ea_cons (ed_lst (ea_cons (ed_tup (ea_cons ed_int (ea_cons ed_int ea_nil)) (by simp)) (ea_cons (ed_tup (ea_cons ed_int (ea_cons ed_int ea_nil)) (by simp)) (ea_cons (ed_tup (ea_cons ed_int (ea_cons ed_int ea_nil)) (by simp)) ea_nil))) (by simp)) ea_nil)) M4.fin.1) (ed_tup (ea_cons ed_int (ea_cons ed_int ea_nil)) (by simp)) (rd_eqD (b := dI [0, 1]) (n := 1) (m := 1) ok_dI ok_dI)).eq (by rw [eqv_dI, M4.fin.2]; rfl)) rfl
end
end K43


set_option Elab.async false
set_option linter.all false
set_option maxRecDepth 100000
set_option maxHeartbeats 4000000
/-! Plain mathematics: fewest gaps that hit all lots. -/
namespace K43
open PySem L2 Fx
def Hits (s : List Int) (lots : List (List Int)) : Prop := ∀ l ∈ lots, ∃ g, g ∈ l ∧ g ∈ s
theorem open_nil {lots : List (List Int)} {taken : List Int} : (openN lots taken).isEmpty = true ↔ Hits taken lots := by
  rw [List.isEmpty_iff]
  unfold openN
  rw [List.map_eq_nil_iff, List.filter_eq_nil_iff]
  constructor
  · intro h l hl
    obtain ⟨i, hi, rfl⟩ := List.mem_iff_getElem.mp hl
    have := h (lots[i], i) (List.mk_mem_zipIdx_iff_getElem?.mpr (List.getElem?_eq_getElem hi))
    simpa using this
  · intro h p hp
    have hl : p.1 ∈ lots := List.mem_of_getElem? (List.mk_mem_zipIdx_iff_getElem?.mp hp)
    simpa using h p.1 hl
theorem canHit_iff {lots : List (List Int)} {first : Int} : ∀ (m : Nat) (taken : List Int), canHit lots first m taken = true ↔ ∃ s : List Int, s.length ≤ m ∧ (∀ g ∈ s, first ≤ g) ∧ Hits (taken ++ s) lots
  | 0, taken => by
    rw [canHit, open_nil]
    constructor
    · intro h; exact ⟨[], Nat.le_refl _, fun g h => (by cases h), by rw [List.append_nil]; exact h⟩
    · rintro ⟨s, hs, _, h⟩
      have : s = [] := List.length_eq_zero_iff.mp (by omega)
      rw [this, List.append_nil] at h
      exact h
  | m + 1, taken => by
    rw [canHit, Bool.or_eq_true, open_nil, List.any_eq_true]
    constructor
    · rintro (h | ⟨g, hg, h⟩)
      · exact ⟨[], Nat.zero_le _, fun g h => (by cases h), by rw [List.append_nil]; exact h⟩
      · rw [Bool.and_eq_true, canHit_iff m] at h
        obtain ⟨h0, s, hs, hf, hh⟩ := h
        exact ⟨g :: s, by simp; omega, fun x hx => by
          rcases List.mem_cons.mp hx with rfl | hx
          · exact of_decide_eq_true h0
          · exact hf x hx, by rw [List.append_assoc] at hh; exact hh⟩
    · rintro ⟨s, hs, hf, hh⟩
      by_cases ho : openN lots taken = []
      · exact .inl (open_nil.mp (by rw [ho]; rfl))
      · right
        have hm := lotAt_mem ho
        have hu := lotAt_open ho
        obtain ⟨g, g1, g2⟩ := hh _ hm
        have g3 : g ∉ taken := by
          have := List.any_eq_false.mp hu g g1
          simpa using this
        have g4 : g ∈ s := by
          rcases List.mem_append.mp g2 with z | z
          · exact absurd z g3
          · exact z
        refine ⟨g, g1, ?_⟩
        rw [Bool.and_eq_true, canHit_iff m]
        refine ⟨decide_eq_true (hf g g4), s.erase g, by rw [List.length_erase_of_mem g4]; omega, fun x hx => hf x (List.mem_of_mem_erase hx), fun l hl => ?_⟩
        obtain ⟨x, x1, x2⟩ := hh l hl
        refine ⟨x, x1, ?_⟩
        rw [List.append_assoc]
        rcases List.mem_append.mp x2 with z | z
        · exact List.mem_append.mpr (.inl z)
        · by_cases e : x = g
          · subst e; simp
          · exact List.mem_append.mpr (.inr (List.mem_cons_of_mem _ ((List.mem_erase_of_ne e).mpr z)))
def lexLe : List Int → List Int → Prop
  | [], _ => True
  | _ :: _, [] => False
  | a :: x, b :: y => a < b ∨ (a = b ∧ lexLe x y)
theorem lexLe_anti : ∀ {x y : List Int}, lexLe x y → lexLe y x → x = y
  | [], [], _, _ => rfl
  | [], _ :: _, _, h => h.elim
  | _ :: _, [], h, _ => h.elim
  | a :: x, b :: y, h1, h2 => by
    rcases h1 with h1 | ⟨rfl, h1⟩
    · rcases h2 with h2 | ⟨rfl, h2⟩
      · omega
      · omega
    · rcases h2 with h2 | ⟨_, h2⟩
      · omega
      · rw [lexLe_anti h1 h2]
theorem lexLe_refl : ∀ x : List Int, lexLe x x
  | [] => trivial
  | _ :: x => .inr ⟨rfl, lexLe_refl x⟩
theorem lexLe_app : ∀ {x y u v : List Int}, x.length = y.length → lexLe x y → lexLe u v → lexLe (x ++ u) (y ++ v)
  | [], [], _, _, _, _, h => h
  | [], _ :: _, _, _, e, _, _ => by cases e
  | _ :: _, [], _, _, e, _, _ => by cases e
  | a :: x, b :: y, u, v, e, h, h' => by
    rcases h with h | ⟨rfl, h⟩
    · exact .inl h
    · exact .inr ⟨rfl, lexLe_app (by simpa using e) h h'⟩
theorem lexLe_map (k : Int) : ∀ {x y : List Int}, lexLe x y → lexLe (x.map fun g => g + k) (y.map fun g => g + k)
  | [], _, _ => trivial
  | _ :: _, [], h => h.elim
  | a :: x, b :: y, h => by
    rcases h with h | ⟨rfl, h⟩
    · exact .inl (by show a + k < b + k; omega)
    · exact .inr ⟨rfl, lexLe_map k h⟩
/-- ascending, strictly, from a list without twins -/
theorem isI_mem {l : List Int} {x : Int} : x ∈ isI l ↔ x ∈ l := (isI_perm l).mem_iff
theorem isI_lt {l : List Int} (h : l.Nodup) : (isI l).Pairwise (· < ·) := by
  have h1 := isI_asc l
  have h2 : (isI l).Nodup := (isI_perm l).nodup_iff.mpr h
  exact (h1.and h2).imp fun ⟨a, b⟩ => by omega
theorem hits_mono {s t : List Int} {lots : List (List Int)} (h : Hits s lots) (st : ∀ g ∈ s, g ∈ t) : Hits t lots := fun l hl => let ⟨g, g1, g2⟩ := h l hl; ⟨g, g1, st g g2⟩
/-- a shorter list of the same members, without twins -/
theorem dedup (s : List Int) : ∃ t : List Int, t.Nodup ∧ (∀ g, g ∈ t ↔ g ∈ s) ∧ t.length ≤ s.length ∧ (t.length = s.length → s.Nodup) := by
  induction s with
  | nil => exact ⟨[], .nil, fun _ => Iff.rfl, Nat.le_refl _, fun _ => .nil⟩
  | cons x r ih =>
    obtain ⟨t, h1, h2, h3, h4⟩ := ih
    by_cases hx : x ∈ r
    · exact ⟨t, h1, fun g => ⟨fun h => List.mem_cons_of_mem _ ((h2 g).mp h), fun h => by
        rcases List.mem_cons.mp h with rfl | h
        · exact (h2 g).mpr hx
        · exact (h2 g).mpr h⟩, by simp; omega, fun e => by simp at e; omega⟩
    · exact ⟨x :: t, List.nodup_cons.mpr ⟨fun h => hx ((h2 x).mp h), h1⟩, fun g => by rw [List.mem_cons, List.mem_cons, h2 g], by simp; omega, fun e => List.nodup_cons.mpr ⟨hx, h4 (by simpa using e)⟩⟩
/-- lots below many -/
def InR (many : Int) (lots : List (List Int)) : Prop := ∀ l ∈ lots, ∀ g ∈ l, 0 ≤ g ∧ g < many
structure Ext (many : Int) (lots : List (List Int)) (m : Nat) (found s : List Int) : Prop where
  len : s.length = m
  asc : s.Pairwise (· < ·)
  rng : ∀ g ∈ s, firstOf found ≤ g ∧ g < many
  hit : Hits (found ++ s) lots
theorem firstOf_snoc (f : List Int) (g : Int) : firstOf (f ++ [g]) = g + 1 := by unfold firstOf; rw [List.getLast?_append]; rfl
theorem ext_of_can {many : Int} {lots : List (List Int)} (hr : InR many lots) {m size : Nat} {found : List Int} {g : Int} (hmin : ∀ s, Hits s lots → size ≤ s.length) (hl : found.length + (m + 1) = size) (h : canHit lots (g + 1) m (found ++ [g]) = true) : ∃ s, Ext many lots m (found ++ [g]) s := by
  obtain ⟨s, hs, hf, hh⟩ := (canHit_iff m _).mp h
  -- what is below many is enough
  have h1 : Hits (found ++ [g] ++ s.filter fun x => decide (x < many)) lots := fun l hl => by
    obtain ⟨x, x1, x2⟩ := hh l hl
    refine ⟨x, x1, ?_⟩
    rcases List.mem_append.mp x2 with z | z
    · exact List.mem_append.mpr (.inl z)
    · exact List.mem_append.mpr (.inr (List.mem_filter.mpr ⟨z, decide_eq_true (hr l hl x x1).2⟩))
  have fl := List.length_filter_le (fun x => decide (x < many)) s
  obtain ⟨t, t1, t2, t3, t4⟩ := dedup (s.filter fun x => decide (x < many))
  have h2 : Hits (found ++ [g] ++ t) lots := hits_mono h1 fun x hx => by
    rcases List.mem_append.mp hx with z | z
    · exact List.mem_append.mpr (.inl z)
    · exact List.mem_append.mpr (.inr ((t2 x).mpr z))
  have h3 := hmin _ h2
  rw [List.length_append, List.length_append, List.length_singleton] at h3
  refine ⟨isI t, by rw [(isI_perm t).length_eq]; omega, isI_lt t1, fun x hx => ?_, hits_mono h2 fun x hx => ?_⟩
  · have := (t2 x).mp (isI_mem.mp hx)
    have h4 := List.mem_filter.mp this
    rw [firstOf_snoc]
    exact ⟨hf x h4.1, of_decide_eq_true h4.2⟩
  · rcases List.mem_append.mp hx with z | z
    · exact List.mem_append.mpr (.inl z)
    · exact List.mem_append.mpr (.inr (isI_mem.mpr z))
theorem can_of_ext {many : Int} {lots : List (List Int)} {m : Nat} {found s : List Int} {g : Int} (h : Ext many lots m (found ++ [g]) s) : canHit lots (g + 1) m (found ++ [g]) = true :=
  (canHit_iff m _).mpr ⟨s, Nat.le_of_eq h.len, fun x hx => by have := (h.rng x hx).1; rwa [firstOf_snoc] at this, h.hit⟩
theorem ext_tail {many : Int} {lots : List (List Int)} {m : Nat} {found s : List Int} {x : Int} (h : Ext many lots (m + 1) found (x :: s)) : Ext many lots m (found ++ [x]) s := by
  have hp := List.pairwise_cons.mp h.asc
  refine ⟨by have := h.len; simpa using this, hp.2, fun g hg => ⟨?_, (h.rng g (List.mem_cons_of_mem _ hg)).2⟩, by have := h.hit; rw [List.append_assoc]; exact this⟩
  rw [firstOf_snoc]
  have := hp.1 g hg
  omega
theorem leastOf_spec {many : Int} {lots : List (List Int)} (hr : InR many lots) {size : Nat} (hmin : ∀ s, Hits s lots → size ≤ s.length) : ∀ (m : Nat) (found : List Int), found.length + m = size → (∃ s, Ext many lots m found s) →
    ∃ t, leastOf many lots m found = some (found ++ t) ∧ Ext many lots m found t ∧ ∀ s, Ext many lots m found s → lexLe t s
  | 0, found, _, ⟨s, hs⟩ => by
    have e : s = [] := List.length_eq_zero_iff.mp hs.len
    subst e
    exact ⟨[], by rw [leastOf, List.append_nil], hs, fun _ _ => trivial⟩
  | m + 1, found, hl, ⟨s, hs⟩ => by
    have cand : ∀ x s', Ext many lots (m + 1) found (x :: s') → x ∈ stepL many lots m found := fun x s' h => by
      unfold stepL
      refine List.mem_filter.mpr ⟨?_, can_of_ext (ext_tail h)⟩
      have := h.rng x List.mem_cons_self
      exact rgD_mem.mpr this
    cases s with
    | nil => have := hs.len; cases this
    | cons x0 s0 =>
    have hx0 := cand x0 s0 hs
    cases hst : stepL many lots m found with
    | nil => rw [hst] at hx0; cases hx0
    | cons g rest =>
    have hg : g ∈ stepL many lots m found := by rw [hst]; exact List.mem_cons_self
    have hg2 := (List.mem_filter.mp hg).2
    have hg3 := stepL_ge hg
    have hasc : (stepL many lots m found).Pairwise (· < ·) := List.Pairwise.sublist List.filter_sublist rgD_asc
    rw [hst] at hasc
    have hle : ∀ x ∈ stepL many lots m found, g ≤ x := fun x hx => by
      rw [hst] at hx
      rcases List.mem_cons.mp hx with rfl | hx
      · exact Int.le_refl _
      · exact Int.le_of_lt ((List.pairwise_cons.mp hasc).1 x hx)
    obtain ⟨t, e, ht, hlex⟩ := leastOf_spec hr hmin m (found ++ [g]) (by rw [List.length_append, List.length_singleton]; omega) (ext_of_can hr hmin hl hg2)
    refine ⟨g :: t, ?_, ⟨by simp [ht.len], List.pairwise_cons.mpr ⟨fun y hy => ?_, ht.asc⟩, fun y hy => ?_, by have := ht.hit; rw [List.append_assoc] at this; exact this⟩, fun s hs => ?_⟩
    · rw [leastOf, hst]
      show leastOf many lots m (found ++ [g]) = _
      rw [e, List.append_assoc]
      rfl
    · have := (ht.rng y hy).1
      rw [firstOf_snoc] at this
      omega
    · rcases List.mem_cons.mp hy with rfl | hy
      · exact hg3
      · have := ht.rng y hy
        rw [firstOf_snoc] at this
        exact ⟨by omega, this.2⟩
    · cases s with
      | nil => have := hs.len; cases this
      | cons x s' =>
        have h1 := hle x (cand x s' hs)
        by_cases e : g = x
        · subst e
          exact .inr ⟨rfl, hlex s' (ext_tail hs)⟩
        · exact .inl (by omega)
/-- r is what least_hits tells -/
structure IsL (many : Int) (lots : List (List Int)) (r : List Int) : Prop where
  asc : Asc many r
  hit : Hits r lots
  min : ∀ s, Hits s lots → r.length ≤ s.length
  lex : ∀ s, Asc many s → Hits s lots → s.length = r.length → lexLe r s
theorem IsL.uniq {many : Int} {lots : List (List Int)} {r r' : List Int} (h : IsL many lots r) (h' : IsL many lots r') : r = r' := by
  have e : r.length = r'.length := Nat.le_antisymm (h.min _ h'.hit) (h'.min _ h.hit)
  exact lexLe_anti (h.lex _ h'.asc h'.hit e.symm) (h'.lex _ h.asc h.hit e)
theorem IsL.congr {many : Int} {lots lots' : List (List Int)} {r : List Int} (h : IsL many lots r) (e : ∀ s, Hits s lots ↔ Hits s lots') : IsL many lots' r :=
  ⟨h.asc, (e r).mp h.hit, fun s hs => h.min s ((e s).mpr hs), fun s a b c => h.lex s a ((e s).mpr b) c⟩
theorem Lots.inR {many : Int} {lots : List (List Int)} (ok : Lots many lots) : InR many lots := fun l hl g hg => (ok.1.lot hl).2 g hg
theorem Lots.ne {many : Int} {lots : List (List Int)} (ok : Lots many lots) {l : List Int} (hl : l ∈ lots) : ∃ g, g ∈ l := by
  cases l with
  | nil => exact absurd hl ok.2
  | cons g r => exact ⟨g, List.mem_cons_self⟩
theorem find_least {p : Nat → Bool} : ∀ {n a : Nat}, (List.range n).find? p = some a → p a = true ∧ a < n ∧ ∀ m, m < a → p m = false := by
  intro n a h
  refine ⟨List.find?_some h, List.mem_range.mp (List.mem_of_find?_eq_some h), fun m hm => ?_⟩
  obtain ⟨_, as, bs, e, hb⟩ := List.find?_eq_some_iff_append.mp h
  have hlen : as.length = a := by
    have h1 : (List.range n)[as.length]? = some a := by rw [e, List.getElem?_append_right (Nat.le_refl _), Nat.sub_self]; rfl
    have hlt : as.length < n := by
      have := (List.getElem?_eq_some_iff.mp h1).1
      rwa [List.length_range] at this
    rw [List.getElem?_range hlt] at h1
    exact Option.some.inj h1
  have hm2 : m ∈ as := by
    have h1 : (List.range n)[m]? = some m := List.getElem?_range (by have := List.mem_range.mp (List.mem_of_find?_eq_some h); omega)
    rw [e, List.getElem?_append_left (by omega)] at h1
    exact List.mem_of_getElem? h1
  have := hb m hm2
  simpa using this
theorem tau_spec {many : Int} {lots : List (List Int)} (ok : Lots many lots) : tauF lots ≤ 16 ∧ canHit lots 0 (tauF lots) [] = true ∧ (∀ m, m < tauF lots → canHit lots 0 m [] = false) ∧ ∀ s, Hits s lots → tauF lots ≤ s.length := by
  have hm := ok.1.1
  have all : Hits (rgD 0 many) lots := fun l hl => by
    obtain ⟨g, hg⟩ := ok.ne hl
    exact ⟨g, hg, rgD_mem.mpr (ok.inR l hl g hg)⟩
  have hlen : (rgD 0 many).length ≤ 16 := by unfold rgD; rw [List.length_map, List.length_range]; omega
  have c16 : canHit lots 0 16 [] = true := (canHit_iff 16 []).mpr ⟨rgD 0 many, hlen, fun g hg => (rgD_mem.mp hg).1, all⟩
  cases h : (List.range 17).find? fun n => canHit lots 0 n [] with
  | none =>
    have := List.find?_eq_none.mp h 16 (List.mem_range.mpr (by decide))
    rw [c16] at this
    exact absurd rfl this
  | some a =>
    obtain ⟨h1, h2, h3⟩ := find_least h
    have e : tauF lots = a := by unfold tauF; rw [h]; rfl
    rw [e]
    refine ⟨by omega, h1, h3, fun s hs => ?_⟩
    rcases Nat.lt_or_ge s.length a with z | z
    · have c := (canHit_iff (lots := lots) (first := 0) s.length []).mpr ⟨s.filter fun g => decide (0 ≤ g), List.length_filter_le _ _, fun g hg => of_decide_eq_true (List.mem_filter.mp hg).2, fun l hl => by
        obtain ⟨g, g1, g2⟩ := hs l hl
        exact ⟨g, g1, List.mem_append.mpr (.inr (List.mem_filter.mpr ⟨g2, decide_eq_true (ok.inR l hl g g1).1⟩))⟩⟩
      rw [h3 _ z] at c
      cases c
    · exact z
theorem least_spec {many : Int} {lots : List (List Int)} (ok : Lots many lots) : leastOf many lots (tauF lots) [] = some (leastF many lots) ∧ (leastF many lots).length = tauF lots ∧ IsL many lots (leastF many lots) := by
  obtain ⟨t16, tc, _, tmin⟩ := tau_spec ok
  have hr := ok.inR
  -- some ascending list of this size
  obtain ⟨s, hs, hf, hh⟩ := (canHit_iff _ _).mp tc
  rw [List.nil_append] at hh
  have h1 : Hits (s.filter fun x => decide (x < many)) lots := fun l hl => by
    obtain ⟨x, x1, x2⟩ := hh l hl
    exact ⟨x, x1, List.mem_filter.mpr ⟨x2, decide_eq_true (hr l hl x x1).2⟩⟩
  have fl := List.length_filter_le (fun x => decide (x < many)) s
  obtain ⟨t, t1, t2, t3, t4⟩ := dedup (s.filter fun x => decide (x < many))
  have h2 : Hits t lots := hits_mono h1 fun x hx => (t2 x).mpr hx
  have h3 := tmin _ h2
  have hext : ∃ s, Ext many lots (tauF lots) [] s := ⟨isI t, by rw [(isI_perm t).length_eq]; omega, isI_lt t1, fun x hx => by
    have h4 := List.mem_filter.mp ((t2 x).mp (isI_mem.mp hx))
    exact ⟨hf x h4.1, of_decide_eq_true h4.2⟩, hits_mono h2 fun x hx => isI_mem.mpr hx⟩
  obtain ⟨r, e, hr2, hlex⟩ := leastOf_spec hr tmin (tauF lots) [] (by simp) hext
  rw [List.nil_append] at e
  have er : leastF many lots = r := by unfold leastF; rw [e]; rfl
  rw [er]
  refine ⟨e, hr2.len, ⟨⟨hr2.asc, fun g hg => hr2.rng g hg⟩, hr2.hit, fun s hs => by rw [hr2.len]; exact tmin s hs, fun s ha hb hc => hlex s ⟨by rw [hc, hr2.len], ha.1, fun g hg => ha.2 g hg, hb⟩⟩⟩
theorem has_least : HasLeast := fun many lots ok => by
  obtain ⟨t16, tc, tl, _⟩ := tau_spec ok
  obtain ⟨e, hl, _⟩ := least_spec ok
  exact ⟨tauF lots, t16, tc, tl, e⟩
theorem IsL.eq {many : Int} {lots : List (List Int)} {r : List Int} (ok : Lots many lots) (h : IsL many lots r) : leastF many lots = r := (least_spec ok).2.2.uniq h
/-- lots by their own words -/
theorem okLot_of {many : Int} {l : List Int} (h : Asc many l) : okLot many l = true := by
  unfold okLot
  rw [Bool.and_eq_true, List.all_eq_true, List.all_eq_true]
  refine ⟨fun g hg => by have := h.2 g hg; simp; omega, ?_⟩
  have : ∀ l : List Int, l.Pairwise (· < ·) → ∀ p ∈ l.zip (l.drop 1), decide (p.1 < p.2) = true := by
    intro l
    induction l with
    | nil => intro _ p hp; simp at hp
    | cons x r ih =>
      intro hp p hpm
      have h2 := List.pairwise_cons.mp hp
      cases r with
      | nil => simp at hpm
      | cons y r =>
        simp only [List.drop_succ_cons, List.drop_zero, List.zip_cons_cons, List.mem_cons] at hpm
        rcases hpm with rfl | hpm
        · exact decide_eq_true (h2.1 y List.mem_cons_self)
        · exact ih h2.2 p (by simpa using hpm)
  exact this l h.1
theorem lots_of {many : Int} {lots : List (List Int)} (hm : 1 ≤ many ∧ many ≤ 16) (hl : lots.length ≤ 400) (h : ∀ l ∈ lots, Asc many l ∧ l ≠ []) : Lots many lots :=
  ⟨⟨hm, hl, fun l hl => ⟨okLot_of (h l hl).1, by have := asc_len (h l hl).1 (by omega); omega⟩⟩, fun z => (h [] z).2 rfl⟩
theorem Lots.asc {many : Int} {lots : List (List Int)} (ok : Lots many lots) {l : List Int} (hl : l ∈ lots) : Asc many l ∧ l ≠ [] := ⟨ok.1.lot hl, fun z => ok.2 (z ▸ hl)⟩
theorem lots_sub {many : Int} {lots lots' : List (List Int)} (ok : Lots many lots) (hl : lots'.length ≤ 400) (h : ∀ l ∈ lots', l ∈ lots) : Lots many lots' := lots_of ok.1.1 hl fun l hl => ok.asc (h l hl)
end K43

set_option Elab.async false
set_option linter.all false
set_option maxRecDepth 100000
set_option maxHeartbeats 4000000
/-! Plain mathematics: lots changed. -/
namespace K43
open PySem L2 Fx
theorem hits_of_mem {s : List Int} {lots lots' : List (List Int)} (h : Hits s lots) (e : ∀ l ∈ lots', l ∈ lots) : Hits s lots' := fun l hl => h l (e l hl)
theorem len_le {many many' : Int} {lots lots' : List (List Int)} (ok : Lots many lots) (ok' : Lots many' lots') (h : ∀ s, Hits s lots → ∃ s', s'.length ≤ s.length ∧ Hits s' lots') : (leastF many' lots').length ≤ (leastF many lots).length := by
  obtain ⟨s', h1, h2⟩ := h _ (least_spec ok).2.2.hit
  exact Nat.le_trans ((least_spec ok').2.2.min _ h2) h1
theorem asc_sublist : ∀ (l o : List Int), l.Pairwise (· < ·) → o.Pairwise (· < ·) → (∀ g ∈ o, g ∈ l) → o.Sublist l
  | [], o, _, _, h => by
    cases o with
    | nil => exact .slnil
    | cons x r => have := h x List.mem_cons_self; cases this
  | x :: r, [], _, _, _ => List.nil_sublist _
  | x :: r, y :: t, hl, ho, h => by
    have hl' := List.pairwise_cons.mp hl
    have ho' := List.pairwise_cons.mp ho
    by_cases e : y = x
    · subst e
      refine .cons₂ _ (asc_sublist r t hl'.2 ho'.2 fun g hg => ?_)
      have h1 := ho'.1 g hg
      rcases List.mem_cons.mp (h g (List.mem_cons_of_mem _ hg)) with z | z
      · omega
      · exact z
    · have hy : y ∈ r := by
        rcases List.mem_cons.mp (h y List.mem_cons_self) with z | z
        · exact absurd z e
        · exact z
      have hxy := hl'.1 y hy
      refine .cons _ (asc_sublist r (y :: t) hl'.2 ho fun g hg => ?_)
      rcases List.mem_cons.mp (h g hg) with z | z
      · exfalso
        rcases List.mem_cons.mp hg with rfl | hg
        · omega
        · have := ho'.1 g hg; omega
      · exact z
theorem min_in {many : Int} {lots : List (List Int)} (ok : Lots many lots) : ∀ (n : Nat) (l : List Int), l.length ≤ n → l ∈ lots → ∃ m, m ∈ minF lots ∧ ∀ g ∈ m, g ∈ l := by
  intro n
  induction n with
  | zero =>
    intro l hl hm
    exact absurd (List.length_eq_zero_iff.mp (by omega)) (ok.asc hm).2
  | succ n ih =>
    intro l hl hm
    by_cases h : l ∈ minF lots
    · exact ⟨l, h, fun g h => h⟩
    · have h1 : ¬ (((lots.filter fun o => !decide (o = l) && o.all fun g => decide (g ∈ l)).map fun _ => (1 : Int)) = []) := fun z => h (List.mem_filter.mpr ⟨hm, decide_eq_true z⟩)
      rw [List.map_eq_nil_iff] at h1
      obtain ⟨o, ho⟩ : ∃ o, o ∈ lots.filter fun o => !decide (o = l) && o.all fun g => decide (g ∈ l) := by
        cases q : lots.filter fun o => !decide (o = l) && o.all fun g => decide (g ∈ l) with
        | nil => exact absurd q h1
        | cons o r => exact ⟨o, List.mem_cons_self⟩
      obtain ⟨ho1, ho2⟩ := List.mem_filter.mp ho
      rw [Bool.and_eq_true, List.all_eq_true] at ho2
      have h3 : o ≠ l := by simpa using ho2.1
      have h4 : ∀ g ∈ o, g ∈ l := fun g hg => of_decide_eq_true (ho2.2 g hg)
      have h5 := asc_sublist l o (ok.asc hm).1.1 (ok.asc ho1).1.1 h4
      have h6 : o.length ≠ l.length := fun e => h3 (h5.eq_of_length e)
      have h7 := h5.length_le
      obtain ⟨m, m1, m2⟩ := ih o (by omega) ho1
      exact ⟨m, m1, fun g hg => h4 g (m2 g hg)⟩
theorem min_hits {many : Int} {lots : List (List Int)} (ok : Lots many lots) (s : List Int) : Hits s lots ↔ Hits s (minF lots) := by
  constructor
  · exact fun h => hits_of_mem h fun l hl => (List.mem_filter.mp hl).1
  · intro h l hl
    obtain ⟨m, m1, m2⟩ := min_in ok _ l (Nat.le_refl _) hl
    obtain ⟨g, g1, g2⟩ := h m m1
    exact ⟨g, m2 g g1, g2⟩
/-- lots renamed: the fewest stay as many -/
theorem tau_map {many : Int} {lots : List (List Int)} (ok : Lots many lots) (f f' : Int → Int) (hf : ∀ g, 0 ≤ g → g < many → 0 ≤ f g ∧ f g < many ∧ f' (f g) = g) :
    Lots many (lots.map fun l => isI (l.map f)) ∧ (leastF many (lots.map fun l => isI (l.map f))).length = (leastF many lots).length := by
  have ok' : Lots many (lots.map fun l => isI (l.map f)) := by
    refine lots_of ok.1.1 (by rw [List.length_map]; exact ok.1.2.1) fun m hm => ?_
    obtain ⟨l, hl, rfl⟩ := List.mem_map.mp hm
    have ha := ok.asc hl
    refine ⟨⟨isI_lt ?_, fun g hg => ?_⟩, fun z => ?_⟩
    · refine List.pairwise_map.mpr (ha.1.1.imp_of_mem fun {a b} h1 h2 h e => ?_)
      have e1 := (hf a (ha.1.2 a h1).1 (ha.1.2 a h1).2).2.2
      have e2 := (hf b (ha.1.2 b h2).1 (ha.1.2 b h2).2).2.2
      rw [e] at e1
      omega
    · obtain ⟨x, hx, rfl⟩ := List.mem_map.mp (isI_mem.mp hg)
      have := hf x (ha.1.2 x hx).1 (ha.1.2 x hx).2
      exact ⟨this.1, this.2.1⟩
    · obtain ⟨g, hg⟩ := ok.ne hl
      have : f g ∈ isI (l.map f) := isI_mem.mpr (List.mem_map.mpr ⟨g, hg, rfl⟩)
      rw [z] at this
      cases this
  refine ⟨ok', Nat.le_antisymm (len_le ok ok' fun s hs => ⟨s.map f, by rw [List.length_map]; exact Nat.le_refl _, fun m hm => ?_⟩) (len_le ok' ok fun s hs => ⟨s.map f', by rw [List.length_map]; exact Nat.le_refl _, fun l hl => ?_⟩)⟩
  · obtain ⟨l, hl, rfl⟩ := List.mem_map.mp hm
    obtain ⟨g, g1, g2⟩ := hs l hl
    exact ⟨f g, isI_mem.mpr (List.mem_map.mpr ⟨g, g1, rfl⟩), List.mem_map.mpr ⟨g, g2, rfl⟩⟩
  · obtain ⟨g, g1, g2⟩ := hs _ (List.mem_map.mpr ⟨l, hl, rfl⟩)
    obtain ⟨x, hx, rfl⟩ := List.mem_map.mp (isI_mem.mp g1)
    exact ⟨x, hx, List.mem_map.mpr ⟨f x, g2, (hf x (ok.inR l hl x hx).1 (ok.inR l hl x hx).2).2.2⟩⟩
theorem maths1 : Maths where
  has := has_least
  mn := fun many lots ok => by
    have ok' : Lots many (minF lots) := lots_sub ok (Nat.le_trans (List.length_filter_le _ _) ok.1.2.1) fun l hl => (List.mem_filter.mp hl).1
    exact ⟨ok', IsL.eq ok' ((least_spec ok).2.2.congr (min_hits ok))⟩
  dbl := fun many lots ok hz => by
    have ok' : Lots many (lots ++ lots) := lots_sub ok (by rw [List.length_append]; omega) fun l hl => by
      rcases List.mem_append.mp hl with z | z <;> exact z
    exact ⟨ok', IsL.eq ok' ((least_spec ok).2.2.congr fun s => ⟨fun h => hits_of_mem h fun l hl => by
      rcases List.mem_append.mp hl with z | z <;> exact z, fun h => hits_of_mem h fun l hl => List.mem_append.mpr (.inl hl)⟩)⟩
  cut := fun many lots s ok hs => by
    have hsub : ∀ l ∈ lots.take s ++ lots.drop (s + 1), l ∈ lots := fun l hl => by
      rcases List.mem_append.mp hl with z | z
      · exact List.mem_of_mem_take z
      · exact List.mem_of_mem_drop z
    have ok' : Lots many (lots.take s ++ lots.drop (s + 1)) := lots_sub ok (by rw [List.length_append, List.length_take, List.length_drop]; have := ok.1.2.1; omega) hsub
    refine ⟨ok', len_le ok ok' fun t ht => ⟨t, Nat.le_refl _, hits_of_mem ht hsub⟩, ?_⟩
    obtain ⟨g, hg⟩ := ok.ne (List.getElem_mem hs)
    have h1 : Hits (leastF many (lots.take s ++ lots.drop (s + 1)) ++ [g]) lots := fun l hl => by
      by_cases e : l ∈ lots.take s ++ lots.drop (s + 1)
      · obtain ⟨x, x1, x2⟩ := (least_spec ok').2.2.hit l e
        exact ⟨x, x1, List.mem_append.mpr (.inl x2)⟩
      · obtain ⟨i, hi, rfl⟩ := List.mem_iff_getElem.mp hl
        have ei : i = s := by
          rcases Nat.lt_trichotomy i s with z | z | z
          · exact absurd (List.mem_append.mpr (.inl (List.mem_take_iff_getElem.mpr ⟨i, by omega, rfl⟩))) e
          · exact z
          · refine absurd (List.mem_append.mpr (.inr ?_)) e
            exact List.mem_drop_iff_getElem.mpr ⟨i - (s + 1), by omega, by congr 1; omega⟩
        subst ei
        exact ⟨g, hg, List.mem_append.mpr (.inr (List.mem_singleton.mpr rfl))⟩
    have := (least_spec ok).2.2.min _ h1
    rwa [List.length_append, List.length_singleton] at this
  wide := fun many lots s g ms ok hs g0 g1 hms hmem => by
    have hsl : lots.getD s [] ∈ lots := getD_mem hs
    have hset : ∀ l ∈ lots.set s ms, l ∈ lots ∨ l = ms := fun l hl => List.mem_or_eq_of_mem_set hl
    have ok' : Lots many (lots.set s ms) := lots_of ok.1.1 (by rw [List.length_set]; exact ok.1.2.1) fun l hl => by
      rcases hset l hl with z | rfl
      · exact ok.asc z
      · refine ⟨⟨hms, fun k hk => ?_⟩, fun z => ?_⟩
        · rcases List.mem_append.mp ((hmem k).mp hk) with q | q
          · exact ok.inR _ hsl k q
          · rw [List.mem_singleton.mp q]; exact ⟨g0, g1⟩
        · have : g ∈ l := (hmem g).mpr (List.mem_append.mpr (.inr (List.mem_singleton.mpr rfl)))
          rw [z] at this
          cases this
    refine ⟨ok', len_le ok ok' fun t ht => ⟨t, Nat.le_refl _, fun l hl => ?_⟩⟩
    rcases hset l hl with z | rfl
    · exact ht l z
    · obtain ⟨k, k1, k2⟩ := ht _ hsl
      exact ⟨k, (hmem k).mpr (List.mem_append.mpr (.inl k1)), k2⟩
  about := fun many lots ok => tau_map ok (fun g => many - 1 - g) (fun g => many - 1 - g) fun g h0 h1 => ⟨by omega, by omega, by omega⟩
  shift := fun many lots sh ok h0 h1 => by
    refine tau_map ok (fun g => (g + sh) % many) (fun g => (g + (many - sh)) % many) fun g g0 g1 => ?_
    have hm : (0 : Int) < many := by omega
    refine ⟨Int.emod_nonneg _ (by omega), Int.emod_lt_of_pos _ hm, ?_⟩
    have e : ((g + sh) % many + (many - sh)) % many = (g + sh + (many - sh)) % many := Int.emod_add_emod _ _ _
    rw [e, show g + sh + (many - sh) = g + many by omega, Int.add_emod_right, Int.emod_eq_of_lt g0 g1]
  hit := fun many lots ok => by
    obtain ⟨t16, tc, _, _⟩ := tau_spec ok
    obtain ⟨_, hl, hi⟩ := least_spec ok
    rw [hl]
    exact ⟨t16, tc, hi.hit⟩
  low := fun many lots ok hne => by
    obtain ⟨t16, tc, tl, _⟩ := tau_spec ok
    obtain ⟨_, hl, hi⟩ := least_spec ok
    have : 1 ≤ (leastF many lots).length := by
      cases lots with
      | nil => exact absurd rfl hne
      | cons l r =>
        obtain ⟨g, _, g2⟩ := hi.hit l List.mem_cons_self
        exact List.length_pos_of_mem g2
    exact ⟨this, tl _ (by omega)⟩
theorem asc_app {many : Int} {x y : List Int} {k : Int} (hx : Asc k x) (hy : Asc many y) (hk : 0 ≤ k) : Asc (many + k) (x ++ y.map fun g => g + k) ∨ many < 0 := by
  by_cases hm : many < 0
  · exact .inr hm
  refine .inl ⟨List.pairwise_append.mpr ⟨hx.1, List.pairwise_map.mpr (hy.1.imp fun h => by omega), fun a ha b hb => ?_⟩, fun g hg => ?_⟩
  · obtain ⟨z, hz, rfl⟩ := List.mem_map.mp hb
    have := hx.2 a ha
    have := hy.2 z hz
    omega
  · rcases List.mem_append.mp hg with h | h
    · have := hx.2 g h; omega
    · obtain ⟨z, hz, rfl⟩ := List.mem_map.mp h
      have := hy.2 z hz
      omega
theorem maths4 : Maths4 where
  un := fun l1 l2 n1 n2 h1 h2 => by
    have ok1 : Lots 4 l1 := lots_of (by decide) (by omega) h1
    have ok2 : Lots 5 l2 := lots_of (by decide) (by omega) h2
    have hml : (movF l2).length = l2.length := by unfold movF; rw [List.length_map]
    have ok9 : Lots 9 (l1 ++ movF l2) := lots_of (by decide) (by rw [List.length_append, hml]; omega) fun l hl => by
      rcases List.mem_append.mp hl with z | z
      · have := h1 l z
        exact ⟨⟨this.1.1, fun g hg => by have := this.1.2 g hg; omega⟩, this.2⟩
      · obtain ⟨m, hm, rfl⟩ := List.mem_map.mp z
        have := h2 m hm
        exact ⟨⟨List.pairwise_map.mpr (this.1.1.imp fun h => by omega), fun g hg => by
          obtain ⟨x, hx, rfl⟩ := List.mem_map.mp hg
          have := this.1.2 x hx
          omega⟩, fun z => this.2 (List.map_eq_nil_iff.mp z)⟩
    refine ⟨ok1, ok2, ok9, IsL.eq ok9 ?_⟩
    have L1 := (least_spec ok1).2.2
    have L2' := (least_spec ok2).2.2
    -- a list that hits both, parted
    have part1 : ∀ s, Hits s (l1 ++ movF l2) → Hits (s.filter fun g => decide (g < 4)) l1 := fun s hs l hl => by
      obtain ⟨g, g1, g2⟩ := hs l (List.mem_append.mpr (.inl hl))
      exact ⟨g, g1, List.mem_filter.mpr ⟨g2, decide_eq_true ((h1 l hl).1.2 g g1).2⟩⟩
    have part2 : ∀ s, Hits s (l1 ++ movF l2) → Hits ((s.filter fun g => !decide (g < 4)).map fun g => g - 4) l2 := fun s hs l hl => by
      obtain ⟨g, g1, g2⟩ := hs _ (List.mem_append.mpr (.inr (List.mem_map.mpr ⟨l, hl, rfl⟩)))
      obtain ⟨x, hx, rfl⟩ := List.mem_map.mp g1
      have := (h2 l hl).1.2 x hx
      exact ⟨x, hx, List.mem_map.mpr ⟨x + 4, List.mem_filter.mpr ⟨g2, by simp; omega⟩, by omega⟩⟩
    have plen : ∀ s : List Int, (s.filter fun g => decide (g < 4)).length + (s.filter fun g => !decide (g < 4)).length = s.length := fun s => by
      have := (List.filter_append_perm (fun g : Int => decide (g < 4)) s).length_eq
      rwa [List.length_append] at this
    refine ⟨?_, fun l hl => ?_, fun s hs => ?_, fun s ha hs hl => ?_⟩
    · rcases asc_app (k := 4) L1.asc L2'.asc (by decide) with h | h
      · exact h
      · omega
    · rcases List.mem_append.mp hl with z | z
      · obtain ⟨g, g1, g2⟩ := L1.hit l z
        exact ⟨g, g1, List.mem_append.mpr (.inl g2)⟩
      · obtain ⟨m, hm, rfl⟩ := List.mem_map.mp z
        obtain ⟨g, g1, g2⟩ := L2'.hit m hm
        exact ⟨g + 4, List.mem_map.mpr ⟨g, g1, rfl⟩, List.mem_append.mpr (.inr (List.mem_map.mpr ⟨g, g2, rfl⟩))⟩
    · have h3 := L1.min _ (part1 s hs)
      have h4 := L2'.min _ (part2 s hs)
      have := plen s
      rw [List.length_map] at h4
      rw [List.length_append, List.length_map]
      omega
    · have h3 := L1.min _ (part1 s hs)
      have h4 := L2'.min _ (part2 s hs)
      have h5 := plen s
      rw [List.length_map] at h4
      rw [List.length_append, List.length_map] at hl
      have split : s = (s.filter fun g => decide (g < 4)) ++ s.filter fun g => !decide (g < 4) := by
        have : ∀ s : List Int, s.Pairwise (· < ·) → s = (s.filter fun g => decide (g < 4)) ++ s.filter fun g => !decide (g < 4) := by
          intro s
          induction s with
          | nil => intro _; rfl
          | cons x r ih =>
            intro hp
            have hp' := List.pairwise_cons.mp hp
            by_cases hx : x < 4
            · rw [List.filter_cons, if_pos (by simpa using hx), List.filter_cons, if_neg (by simpa using hx), List.cons_append, ← ih hp'.2]
            · have e1 : (x :: r).filter (fun g => decide (g < 4)) = [] := List.filter_eq_nil_iff.mpr fun g hg => by
                rcases List.mem_cons.mp hg with rfl | hg
                · simpa using hx
                · have := hp'.1 g hg; simp; omega
              have e2 : (x :: r).filter (fun g => !decide (g < 4)) = x :: r := List.filter_eq_self.mpr fun g hg => by
                rcases List.mem_cons.mp hg with rfl | hg
                · simpa using hx
                · have := hp'.1 g hg; simp; omega
              rw [e1, e2]; rfl
        exact this s ha.1
      have a1 : Asc 4 (s.filter fun g => decide (g < 4)) := ⟨ha.1.sublist List.filter_sublist, fun g hg => by
        have := List.mem_filter.mp hg
        exact ⟨(ha.2 g this.1).1, of_decide_eq_true this.2⟩⟩
      have a2 : Asc 5 ((s.filter fun g => !decide (g < 4)).map fun g => g - 4) := ⟨List.pairwise_map.mpr ((ha.1.sublist List.filter_sublist).imp fun h => by omega), fun g hg => by
        obtain ⟨x, hx, rfl⟩ := List.mem_map.mp hg
        have := List.mem_filter.mp hx
        have h6 := ha.2 x this.1
        have h7 : ¬ x < 4 := by simpa using this.2
        omega⟩
      have x1 := L1.lex _ a1 (part1 s hs) (by omega)
      have x2 := L2'.lex _ a2 (part2 s hs) (by rw [List.length_map]; omega)
      have x3 := lexLe_map 4 x2
      rw [List.map_map] at x3
      have e3 : ((s.filter fun g => !decide (g < 4)).map ((fun g => g + 4) ∘ fun g => g - 4)) = s.filter fun g => !decide (g < 4) := by
        conv => rhs; rw [← List.map_id (s.filter fun g => !decide (g < 4))]
        exact List.map_congr_left fun g _ => by show g - 4 + 4 = g; omega
      rw [e3] at x3
      rw [split]
      exact lexLe_app (by omega) x1 x3
  fin := by
    have ok : Lots 3 [[0, 1], [1, 2], [0, 2]] := lots_of (by decide) (by decide) (by
      intro l hl
      simp only [List.mem_cons, List.mem_nil_iff, or_false] at hl
      rcases hl with rfl | rfl | rfl <;> refine ⟨⟨by decide, by decide⟩, by decide⟩)
    exact ⟨ok, by decide +kernel⟩
end K43

set_option Elab.async false
set_option linter.all false
set_option maxRecDepth 100000
set_option maxHeartbeats 4000000
/-! Plain mathematics: stretches. -/
namespace K43
open PySem L2 Fx
def Apart (l m : List Int) : Prop := ∀ g, g ∈ l → g ∈ m → False
/-- lots apart want a gap each -/
theorem apart_len : ∀ (ds : List (List Int)) (s : List Int), ds.Pairwise Apart → Hits s ds → ds.length ≤ s.length
  | [], _, _, _ => Nat.zero_le _
  | d :: ds, s, hp, hh => by
    have hp' := List.pairwise_cons.mp hp
    obtain ⟨g, g1, g2⟩ := hh d List.mem_cons_self
    have := apart_len ds (s.erase g) hp'.2 fun l hl => by
      obtain ⟨x, x1, x2⟩ := hh l (List.mem_cons_of_mem _ hl)
      refine ⟨x, x1, (List.mem_erase_of_ne fun e => ?_).mpr x2⟩
      subst e
      exact hp'.1 l hl x g1 x1
    rw [List.length_erase_of_mem g2] at this
    have := List.length_pos_of_mem g2
    simp
    omega
theorem byEnd_perm (ps : List (Int × Int)) : (byEnd ps).Perm ps := isort_perm _ _
theorem swo_end : SrtO.Swo (fun p q : Int × Int => decide (p.2 < q.2)) := ⟨fun x y h => by simp at h ⊢; omega, fun x y z h1 h2 => by simp at h1 h2 ⊢; omega⟩
theorem byEnd_asc (ps : List (Int × Int)) : (byEnd ps).Pairwise fun p q => p.2 ≤ q.2 := by
  have h : SrtO.Srtd _ _ := isort_srtd swo_end ps
  refine List.Pairwise.imp ?_ h
  intro a b q
  have q : decide (b.2 < a.2) = false := q
  simpa using q
structure Picks (L K : List (Int × Int)) (last : Int) : Prop where
  sub : K.Sublist L
  low : ∀ p ∈ K, last < p.1
  ord : K.Pairwise fun p q => p.2 < q.1
  hit : ∀ p ∈ L, (p.1 ≤ last ∧ last ≤ p.2) ∨ ∃ k ∈ K, p.1 ≤ k.2 ∧ k.2 ≤ p.2
theorem picks : ∀ (L : List (Int × Int)) (last : Int), (L.Pairwise fun p q => p.2 ≤ q.2) → (∀ p ∈ L, p.1 ≤ p.2 ∧ last ≤ p.2) → Picks L (stretchF L last) last
  | [], last, _, _ => ⟨.slnil, (fun p h => by cases h), .nil, (fun p h => by cases h)⟩
  | p :: r, last, hs, hp => by
    have hs' := List.pairwise_cons.mp hs
    have hp0 := hp p List.mem_cons_self
    rw [stretchF]
    by_cases h : last < p.1
    · rw [if_pos h]
      have ih := picks r p.2 hs'.2 fun q hq => ⟨(hp q (List.mem_cons_of_mem _ hq)).1, hs'.1 q hq⟩
      refine ⟨.cons₂ _ ih.sub, fun q hq => ?_, List.pairwise_cons.mpr ⟨fun q hq => ih.low q hq, ih.ord⟩, fun q hq => ?_⟩
      · rcases List.mem_cons.mp hq with rfl | hq
        · exact h
        · have := ih.low q hq; omega
      · rcases List.mem_cons.mp hq with rfl | hq
        · exact .inr ⟨q, List.mem_cons_self, hp0.1, Int.le_refl _⟩
        · rcases ih.hit q hq with ⟨h1, h2⟩ | ⟨k, k1, k2⟩
          · exact .inr ⟨p, List.mem_cons_self, h1, h2⟩
          · exact .inr ⟨k, List.mem_cons_of_mem _ k1, k2⟩
    · rw [if_neg h]
      have ih := picks r last hs'.2 fun q hq => hp q (List.mem_cons_of_mem _ hq)
      refine ⟨.cons _ ih.sub, ih.low, ih.ord, fun q hq => ?_⟩
      rcases List.mem_cons.mp hq with rfl | hq
      · exact .inl ⟨by omega, hp0.2⟩
      · exact ih.hit q hq
theorem picks_of {ps : List (Int × Int)} (hp : ∀ p ∈ ps, 0 ≤ p.1 ∧ p.1 ≤ p.2) : Picks (byEnd ps) (stretchF (byEnd ps) (-1)) (-1) :=
  picks _ _ (byEnd_asc ps) fun p h => by have := hp p ((byEnd_perm ps).mem_iff.mp h); omega
theorem pair_or {α : Type} {R : α → α → Prop} : ∀ {l : List α}, l.Pairwise R → ∀ p ∈ l, ∀ q ∈ l, p ≠ q → R p q ∨ R q p
  | [], _, p, hp, _, _, _ => by cases hp
  | x :: r, h, p, hp, q, hq, ne => by
    have h' := List.pairwise_cons.mp h
    rcases List.mem_cons.mp hp with e1 | hp
    · rcases List.mem_cons.mp hq with e2 | hq
      · exact absurd (e1.trans e2.symm) ne
      · exact .inl (e1 ▸ h'.1 q hq)
    · rcases List.mem_cons.mp hq with e2 | hq
      · exact .inr (e2 ▸ h'.1 p hp)
      · exact pair_or h'.2 p hp q hq ne
theorem maths2 : Maths2 where
  st := fun many ps ok => by
    obtain ⟨⟨m0, m1⟩, hl, hne, hp⟩ := ok
    have okl : Lots many (stLots ps) := by
      refine lots_of (by omega) (by unfold stLots; rw [List.length_map]; omega) fun l hl => ?_
      obtain ⟨p, hp', rfl⟩ := List.mem_map.mp hl
      have := hp p hp'
      refine ⟨⟨rgD_asc, fun g hg => by have := rgD_mem.mp hg; omega⟩, fun z => ?_⟩
      have h1 : p.1 ∈ rgD p.1 (p.2 + 1) := rgD_mem.mpr (by omega)
      rw [z] at h1
      cases h1
    have K := picks_of (ps := ps) fun p h => by have := hp p h; omega
    have L := (least_spec okl).2.2
    refine ⟨okl, Nat.le_antisymm ?_ ?_, fun p h1 q h2 ne h => ?_⟩
    · have h1 : Hits ((stretchF (byEnd ps) (-1)).map (·.2)) (stLots ps) := fun l hl => by
        obtain ⟨p, hp', rfl⟩ := List.mem_map.mp hl
        have h0 := hp p hp'
        rcases K.hit p ((byEnd_perm ps).mem_iff.mpr hp') with z | ⟨k, k1, k2, k3⟩
        · omega
        · exact ⟨k.2, rgD_mem.mpr (by omega), List.mem_map.mpr ⟨k, k1, rfl⟩⟩
      have := L.min _ h1
      rwa [List.length_map] at this
    · have h1 : ((stretchF (byEnd ps) (-1)).map fun p => rgD p.1 (p.2 + 1)).Pairwise Apart := List.pairwise_map.mpr (K.ord.imp fun h g g1 g2 => by
        have := rgD_mem.mp g1
        have := rgD_mem.mp g2
        omega)
      have h2 := apart_len _ (leastF many (stLots ps)) h1 fun l hl => by
        obtain ⟨p, hp', rfl⟩ := List.mem_map.mp hl
        exact L.hit _ (List.mem_map.mpr ⟨p, (byEnd_perm ps).mem_iff.mp (K.sub.subset hp'), rfl⟩)
      rwa [List.length_map] at h2
    · rcases pair_or K.ord p h1 q h2 ne with z | z <;> omega
end K43

set_option Elab.async false
set_option linter.all false
set_option maxRecDepth 100000
set_option maxHeartbeats 4000000
/-! Plain mathematics: arcs of a ring. -/
namespace K43
open PySem L2 Fx
theorem arc_mem {many a b g : Int} : g ∈ arcF many a b ↔ (a ≤ b ∧ a ≤ g ∧ g ≤ b) ∨ (b < a ∧ ((a ≤ g ∧ g < many) ∨ (0 ≤ g ∧ g ≤ b))) := by
  unfold arcF
  rw [isI_mem]
  split
  · rw [rgD_mem]; omega
  · rw [List.mem_append, rgD_mem, rgD_mem]; omega
theorem arc_asc {many : Int} {p : Int × Int} (h : 0 ≤ p.1 ∧ p.1 < many ∧ 0 ≤ p.2 ∧ p.2 < many) : Asc many (arcF many p.1 p.2) ∧ arcF many p.1 p.2 ≠ [] := by
  refine ⟨⟨?_, fun g hg => by have := arc_mem.mp hg; omega⟩, fun z => ?_⟩
  · unfold arcF
    refine isI_lt ?_
    split
    · exact rgD_asc.imp fun h => by omega
    · refine List.pairwise_append.mpr ⟨rgD_asc.imp fun h => by omega, rgD_asc.imp fun h => by omega, fun x hx y hy e => ?_⟩
      have := rgD_mem.mp hx
      have := rgD_mem.mp hy
      omega
  · have h1 : p.1 ∈ arcF many p.1 p.2 := arc_mem.mpr (by omega)
    rw [z] at h1
    cases h1
def shI (many g x : Int) : Int := (x + many - g) % many
theorem sh_eq {many g x : Int} (hg : 0 ≤ g ∧ g < many) (hx : 0 ≤ x ∧ x < many) : (g ≤ x ∧ shI many g x = x - g) ∨ (x < g ∧ shI many g x = x + many - g) := by
  unfold shI
  by_cases h : g ≤ x
  · refine .inl ⟨h, ?_⟩
    rw [show x + many - g = (x - g) + many by omega, Int.add_emod_right, Int.emod_eq_of_lt (by omega) (by omega)]
  · exact .inr ⟨by omega, Int.emod_eq_of_lt (by omega) (by omega)⟩
def unI (many g y : Int) : Int := if y + g < many then y + g else y + g - many
theorem un_eq {many g y : Int} (hg : 0 ≤ g ∧ g < many) (hy : 0 ≤ y ∧ y < many) : (0 ≤ unI many g y ∧ unI many g y < many) ∧ shI many g (unI many g y) = y := by
  have h0 : 0 ≤ unI many g y ∧ unI many g y < many := by unfold unI; split <;> omega
  refine ⟨h0, ?_⟩
  rcases sh_eq hg h0 with ⟨h1, e⟩ | ⟨h1, e⟩
  · rw [e]; unfold unI at h1 ⊢; split at h1 <;> rename_i hh
    · rw [if_pos hh]; omega
    · omega
  · rw [e]; unfold unI at h1 ⊢; split at h1 <;> rename_i hh
    · omega
    · rw [if_neg hh]; omega
/-- an arc without the gap g, from behind g on, is a stretch -/
theorem arc_cut {many g : Int} {p : Int × Int} (hp : 0 ≤ p.1 ∧ p.1 < many ∧ 0 ≤ p.2 ∧ p.2 < many) (hg : 0 ≤ g ∧ g < many) (hn : g ∉ arcF many p.1 p.2) :
    (1 ≤ (cutP many g p).1 ∧ (cutP many g p).1 ≤ (cutP many g p).2 ∧ (cutP many g p).2 < many) ∧ ∀ x, 0 ≤ x → x < many → (x ∈ arcF many p.1 p.2 ↔ (cutP many g p).1 ≤ shI many g x ∧ shI many g x ≤ (cutP many g p).2) := by
  have hn' : ¬ ((p.1 ≤ p.2 ∧ p.1 ≤ g ∧ g ≤ p.2) ∨ (p.2 < p.1 ∧ ((p.1 ≤ g ∧ g < many) ∨ (0 ≤ g ∧ g ≤ p.2)))) := fun z => hn (arc_mem.mpr z)
  have e1 : (cutP many g p).1 = shI many g p.1 := rfl
  have e2 : (cutP many g p).2 = shI many g p.2 := rfl
  rw [e1, e2]
  have h1 := sh_eq hg ⟨hp.1, hp.2.1⟩
  have h2 := sh_eq hg ⟨hp.2.2.1, hp.2.2.2⟩
  refine ⟨by omega, fun x x0 x1 => ?_⟩
  rw [arc_mem]
  have h3 := sh_eq hg ⟨x0, x1⟩
  omega
theorem okAp_iff {lots : List (List Int)} {s lot : List Int} : okAp lots s lot = true ↔ ∀ j ∈ s, Apart (lots.getD j.toNat []) lot := by
  unfold okAp
  rw [decide_eq_true_eq, List.map_eq_nil_iff, List.filter_eq_nil_iff]
  constructor
  · intro h j hj g g1 g2
    have h1 := h j hj
    have h2 : (lots.getD j.toNat []).filter (fun g => decide (g ∈ lot)) = [] := by simpa using h1
    exact List.filter_eq_nil_iff.mp h2 g g1 (decide_eq_true g2)
  · intro h j hj z
    have h2 : ¬ (lots.getD j.toNat []).filter (fun g => decide (g ∈ lot)) = [] := by simpa using z
    exact h2 (List.filter_eq_nil_iff.mpr fun g g1 g2 => h j hj g g1 (of_decide_eq_true g2))
theorem apN_apart (lots : List (List Int)) : ∀ i, ∀ s ∈ apN lots i, (s.map fun j => lots.getD j.toNat []).Pairwise Apart
  | 0, s, h => by rw [List.mem_singleton.mp h]; exact .nil
  | i + 1, s, h => by
    rcases List.mem_append.mp h with h | h
    · exact apN_apart lots i s h
    · obtain ⟨t, ht, rfl⟩ := List.mem_map.mp h
      obtain ⟨h1, h2⟩ := List.mem_filter.mp ht
      rw [List.map_append]
      refine List.pairwise_append.mpr ⟨apN_apart lots i t h1, List.pairwise_singleton _ _, fun a ha b hb => ?_⟩
      obtain ⟨j, hj, rfl⟩ := List.mem_map.mp ha
      have := okAp_iff.mp h2 j hj
      rw [List.map_singleton, List.mem_singleton] at hb
      rw [hb]
      exact this
theorem apN_sub (lots : List (List Int)) : ∀ i, i ≤ lots.length → ∀ D : List (List Int), D.Sublist (lots.take i) → D.Pairwise Apart → ∃ s, s ∈ apN lots i ∧ (s.map fun j => lots.getD j.toNat []) = D
  | 0, _, D, hd, _ => by
    have : D = [] := by
      rw [List.take_zero] at hd
      exact List.sublist_nil.mp hd
    subst this
    exact ⟨[], List.mem_singleton.mpr rfl, rfl⟩
  | i + 1, hi, D, hd, hp => by
    rw [List.take_succ_eq_append_getElem (by omega : i < lots.length)] at hd
    obtain ⟨D1, D2, e, h1, h2⟩ := List.sublist_append_iff.mp hd
    subst e
    have hp' := List.pairwise_append.mp hp
    obtain ⟨s, s1, s2⟩ := apN_sub lots i (by omega) D1 h1 hp'.1
    have hgd : lots.getD i [] = lots[i] := by rw [List.getD_eq_getElem?_getD, List.getElem?_eq_getElem (by omega : i < lots.length)]; rfl
    cases D2 with
    | nil => exact ⟨s, List.mem_append.mpr (.inl s1), by rw [List.append_nil]; exact s2⟩
    | cons d r =>
      have hr : r = [] := by
        have := h2.length_le
        simp at this
        exact this
      subst hr
      have hd2 : d = lots[i] := List.mem_singleton.mp (h2.subset List.mem_cons_self)
      refine ⟨s ++ [(i : Int)], List.mem_append.mpr (.inr (List.mem_map.mpr ⟨s, List.mem_filter.mpr ⟨s1, okAp_iff.mpr fun j hj => ?_⟩, rfl⟩)), ?_⟩
      · rw [hgd, ← hd2]
        exact hp'.2.2 _ (by rw [← s2]; exact List.mem_map.mpr ⟨j, hj, rfl⟩) d List.mem_cons_self
      · rw [List.map_append, s2, List.map_singleton, Int.toNat_natCast, hgd, hd2]
theorem maths3 : Maths3 where
  ar := fun many ps ok hne => by
    obtain ⟨⟨m0, m1⟩, hl, hp⟩ := ok
    have okl : Lots many (arcLots many ps) := lots_of (by omega) (by unfold arcLots; rw [List.length_map]; omega) fun l hl => by
      obtain ⟨p, hp', rfl⟩ := List.mem_map.mp hl
      exact arc_asc (hp p hp')
    have L := (least_spec okl).2.2
    have hsm : shortF (arcLots many ps) ∈ arcLots many ps := by
      cases hlots : arcLots many ps with
      | nil => exact absurd (List.map_eq_nil_iff.mp hlots) hne
      | cons l0 r => exact pick_mem
    have hrng : ∀ g ∈ shortF (arcLots many ps), 0 ≤ g ∧ g < many := fun g hg => okl.inR _ hsm g hg
    -- the stretches behind a cut
    have cutmem : ∀ g q, q ∈ cutL many ps g ↔ ∃ p, p ∈ ps ∧ g ∉ arcF many p.1 p.2 ∧ cutP many g p = q := fun g q => by
      unfold cutL
      rw [List.mem_map]
      constructor
      · rintro ⟨p, h1, h2⟩
        have := List.mem_filter.mp h1
        exact ⟨p, this.1, by simpa using this.2, h2⟩
      · rintro ⟨p, h1, h2, h3⟩
        exact ⟨p, List.mem_filter.mpr ⟨h1, by simpa using h2⟩, h3⟩
    have cutok : ∀ g, 0 ≤ g ∧ g < many → ∀ q ∈ cutL many ps g, 1 ≤ q.1 ∧ q.1 ≤ q.2 ∧ q.2 < many := fun g hg q hq => by
      obtain ⟨p, h1, h2, rfl⟩ := (cutmem g q).mp hq
      exact (arc_cut (hp p h1) hg h2).1
    have pk : ∀ g, 0 ≤ g ∧ g < many → Picks (byEnd (cutL many ps g)) (stretchF (byEnd (cutL many ps g)) (-1)) (-1) := fun g hg => picks_of fun q hq => by have := cutok g hg q hq; omega
    have inL : ∀ g, 0 ≤ g ∧ g < many → ∀ k ∈ stretchF (byEnd (cutL many ps g)) (-1), k ∈ cutL many ps g := fun g hg k hk => (byEnd_perm _).mem_iff.mp ((pk g hg).sub.subset hk)
    have ge : ∀ g, 0 ≤ g ∧ g < many → (leastF many (arcLots many ps)).length ≤ cutF many ps g := fun g hg => by
      have h1 : Hits (g :: (stretchF (byEnd (cutL many ps g)) (-1)).map fun k => unI many g k.2) (arcLots many ps) := fun l hl => by
        obtain ⟨p, hp', rfl⟩ := List.mem_map.mp hl
        by_cases h : g ∈ arcF many p.1 p.2
        · exact ⟨g, h, List.mem_cons_self⟩
        · have hq := (cutmem g _).mpr ⟨p, hp', h, rfl⟩
          have hq1 := cutok g hg _ hq
          rcases (pk g hg).hit _ ((byEnd_perm _).mem_iff.mpr hq) with z | ⟨k, k1, k2, k3⟩
          · omega
          · have hk := cutok g hg k (inL g hg k k1)
            obtain ⟨u1, u2⟩ := un_eq (many := many) (g := g) (y := k.2) hg (by omega)
            refine ⟨unI many g k.2, ((arc_cut (hp p hp') hg h).2 _ u1.1 u1.2).mpr ?_, List.mem_cons_of_mem _ (List.mem_map.mpr ⟨k, k1, rfl⟩)⟩
            rw [u2]
            exact ⟨k2, k3⟩
      have := L.min _ h1
      rw [List.length_cons, List.length_map] at this
      unfold cutF
      omega
    obtain ⟨g0, hg0, hg0r⟩ := L.hit _ hsm
    have le : cutF many ps g0 ≤ (leastF many (arcLots many ps)).length := by
      have hg := hrng g0 hg0
      have h1 : ((stretchF (byEnd (cutL many ps g0)) (-1)).map fun p => rgD p.1 (p.2 + 1)).Pairwise Apart := List.pairwise_map.mpr ((pk g0 hg).ord.imp fun h x x1 x2 => by
        have := rgD_mem.mp x1
        have := rgD_mem.mp x2
        omega)
      have h2 := apart_len _ (((leastF many (arcLots many ps)).erase g0).map (shI many g0)) h1 fun l hl => by
        obtain ⟨k, hk, rfl⟩ := List.mem_map.mp hl
        obtain ⟨p, h3, h4, e⟩ := (cutmem g0 k).mp (inL g0 hg k hk)
        obtain ⟨x, x1, x2⟩ := L.hit _ (List.mem_map.mpr ⟨p, h3, rfl⟩)
        have xr := L.asc.2 x x2
        have ne : x ≠ g0 := fun z => h4 (z ▸ x1)
        have := ((arc_cut (hp p h3) hg h4).2 x xr.1 xr.2).mp x1
        rw [e] at this
        exact ⟨shI many g0 x, rgD_mem.mpr (by omega), List.mem_map.mpr ⟨x, (List.mem_erase_of_ne ne).mpr x2, rfl⟩⟩
      rw [List.length_map, List.length_map, List.length_erase_of_mem hg0r] at h2
      have := List.length_pos_of_mem hg0r
      unfold cutF
      omega
    refine ⟨okl, List.mem_map.mpr ⟨g0, hg0, ?_⟩, fun y hy => ?_, fun b hb1 hb2 => ⟨?_, ?_⟩⟩
    · have := ge g0 (hrng g0 hg0)
      omega
    · obtain ⟨g, hg, rfl⟩ := List.mem_map.mp hy
      have := ge g (hrng g hg)
      omega
    · obtain ⟨s, hs, rfl⟩ := List.mem_map.mp hb1
      have h1 := apart_len _ (leastF many (arcLots many ps)) (apN_apart _ _ s hs) fun l hl => by
        obtain ⟨j, hj, rfl⟩ := List.mem_map.mp hl
        have hj2 := (apN_in _ _ s hs).2 j hj
        refine L.hit _ (getD_mem ?_)
        unfold arcLots
        rw [List.length_map]
        omega
      rw [List.length_map] at h1
      omega
    · have hg := hrng g0 hg0
      have h1 := ge g0 hg
      -- the picks, in their own order among the pairs
      obtain ⟨K', k1, k2⟩ := List.exists_perm_sublist (pk g0 hg).sub (byEnd_perm _)
      unfold cutL at k2
      obtain ⟨P', p1, p2⟩ := List.sublist_map_iff.mp k2
      have hsym : K'.Pairwise fun p q => p.2 < q.1 ∨ q.2 < p.1 := (k1.pairwise_iff fun {x y} h => h.symm).mpr ((pk g0 hg).ord.imp fun h => .inl h)
      rw [p2] at hsym
      have hP : P'.Sublist ps := p1.trans List.filter_sublist
      have hap : (P'.map fun p => arcF many p.1 p.2).Pairwise Apart := by
        refine List.pairwise_map.mpr ((List.pairwise_map.mp hsym).imp_of_mem fun {a b'} ha hb' h x x1 x2 => ?_)
        have a1 := List.mem_filter.mp (p1.subset ha)
        have b1 := List.mem_filter.mp (p1.subset hb')
        have xr := (arc_asc (hp a a1.1)).1.2 x x1
        have i1 := ((arc_cut (hp a a1.1) hg (by simpa using a1.2)).2 x xr.1 xr.2).mp x1
        have i2 := ((arc_cut (hp b' b1.1) hg (by simpa using b1.2)).2 x xr.1 xr.2).mp x2
        omega
      have hlen : (arcLots many ps).length = ps.length := by unfold arcLots; rw [List.length_map]
      obtain ⟨s, s1, s2⟩ := apN_sub (arcLots many ps) ps.length (by omega) _ (by rw [← hlen, List.take_length]; exact hP.map _) hap
      have h2 := hb2 _ (List.mem_map.mpr ⟨s, s1, rfl⟩)
      have e1 : s.length = P'.length := by
        have := congrArg List.length s2
        rwa [List.length_map, List.length_map] at this
      have e2 : K'.length = P'.length := by rw [p2, List.length_map]
      have e3 := k1.length_eq
      unfold cutF at h1
      omega
end K43

set_option Elab.async false
set_option linter.all false
set_option maxRecDepth 100000
set_option maxHeartbeats 0
/-! The end: what the top leaves, the chain of defs, the theorem. -/
namespace K43
open PySem PySem.Spec PyProof.Rows L2 LamX C8 Fx
def dd6 : He.DefD := ⟨("is_number", none), "is_number", "is_number", fnArgs (top 6), fnBody (top 6), fnScope (top 6), [], []⟩
def dd7 : He.DefD := ⟨("is_list", none), "is_list", "is_list", fnArgs (top 7), fnBody (top 7), fnScope (top 7), [], []⟩
def dd13 : He.DefD := ⟨("is_lot", none), "is_lot", "is_lot", fnArgs (top 13), fnBody (top 13), fnScope (top 13), [], []⟩
def dd14 : He.DefD := ⟨("need_lots", none), "need_lots", "need_lots", fnArgs (top 14), fnBody (top 14), fnScope (top 14), [], []⟩
def dd15 : He.DefD := ⟨("open_lots", none), "open_lots", "open_lots", fnArgs (top 15), fnBody (top 15), fnScope (top 15), [], []⟩
def dd16 : He.DefD := ⟨("shortest", none), "shortest", "shortest", fnArgs (top 16), fnBody (top 16), fnScope (top 16), [], []⟩
def dd17 : He.DefD := ⟨("can_hit", none), "can_hit", "can_hit", fnArgs (top 17), fnBody (top 17), fnScope (top 17), [], []⟩
def dd18 : He.DefD := ⟨("least_of", none), "least_of", "least_of", fnArgs (top 18), fnBody (top 18), fnScope (top 18), [], []⟩
def dd19 : He.DefD := ⟨("least_hits", none), "least_hits", "least_hits", fnArgs (top 19), fnBody (top 19), fnScope (top 19), [], []⟩
def dd20 : He.DefD := ⟨("grown", none), "grown", "grown", fnArgs (top 20), fnBody (top 20), fnScope (top 20), [], []⟩
def dd21 : He.DefD := ⟨("need_number", none), "need_number", "need_number", fnArgs (top 21), fnBody (top 21), fnScope (top 21), [], []⟩
def dd22 : He.DefD := ⟨("hit_tree", none), "hit_tree", "hit_tree", fnArgs (top 22), fnBody (top 22), fnScope (top 22), [], []⟩
def dd23 : He.DefD := ⟨("is_hit_tree", none), "is_hit_tree", "is_hit_tree", fnArgs (top 23), fnBody (top 23), fnScope (top 23), [], []⟩
def dd24 : He.DefD := ⟨("is_grown", none), "is_grown", "is_grown", fnArgs (top 24), fnBody (top 24), fnScope (top 24), [], []⟩
def dd26 : He.DefD := ⟨("_law_begun", none), "_law_begun", "_law_begun", fnArgs (top 26), fnBody (top 26), fnScope (top 26), [], []⟩
def dd27 : He.DefD := ⟨("_law_mixed_up", none), "_law_mixed_up", "_law_mixed_up", fnArgs (top 27), fnBody (top 27), fnScope (top 27), [], []⟩
def dd28 : He.DefD := ⟨("_law_draw", none), "_law_draw", "_law_draw", fnArgs (top 28), fnBody (top 28), fnScope (top 28), [], []⟩
def dd29 : He.DefD := ⟨("_law_drawn_lots", none), "_law_drawn_lots", "_law_drawn_lots", fnArgs (top 29), fnBody (top 29), fnScope (top 29), [], []⟩
def dd30 : He.DefD := ⟨("_law_size", none), "_law_size", "_law_size", fnArgs (top 30), fnBody (top 30), fnScope (top 30), [], []⟩
def dd31 : He.DefD := ⟨("_law_stretch_size", none), "_law_stretch_size", "_law_stretch_size", fnArgs (top 31), fnBody (top 31), fnScope (top 31), [], []⟩
def dd32 : He.DefD := ⟨("_law_arc_lot", none), "_law_arc_lot", "_law_arc_lot", fnArgs (top 32), fnBody (top 32), fnScope (top 32), [], []⟩
def dd33 : He.DefD := ⟨("_law_cut_size", none), "_law_cut_size", "_law_cut_size", fnArgs (top 33), fnBody (top 33), fnScope (top 33), [], []⟩
def dd34 : He.DefD := ⟨("_law_stretches_right", none), "_law_stretches_right", "_law_stretches_right", fnArgs (top 34), fnBody (top 34), fnScope (top 34), [], []⟩
def dd35 : He.DefD := ⟨("_law_arcs_right", none), "_law_arcs_right", "_law_arcs_right", fnArgs (top 35), fnBody (top 35), fnScope (top 35), [], []⟩
def dd36 : He.DefD := ⟨("_law_lies_in", none), "_law_lies_in", "_law_lies_in", fnArgs (top 36), fnBody (top 36), fnScope (top 36), [], []⟩
def dd37 : He.DefD := ⟨("_law_lots_right", none), "_law_lots_right", "_law_lots_right", fnArgs (top 37), fnBody (top 37), fnScope (top 37), [], []⟩
def dd38 : He.DefD := ⟨("law", none), "law", "law", fnArgs (top 38), fnBody (top 38), fnScope (top 38), [], []⟩
def fnl : List He.DefD := [dd6, dd7, dd13, dd14, dd15, dd16, dd17, dd18, dd19, dd20, dd21, dd22, dd23, dd24, dd26, dd27, dd28, dd29, dd30, dd31, dd32, dd33, dd34, dd35, dd36, dd37, dd38]
def fal : List He.Fa := [.glo "is_number", .glo "is_list", .glo "is_lot", .glo "need_lots", .glo "open_lots", .glo "shortest", .glo "can_hit", .glo "least_of", .glo "least_hits", .glo "grown", .glo "need_number", .glo "hit_tree", .glo "is_hit_tree", .glo "is_grown", .glo "_law_begun", .glo "_law_mixed_up", .glo "_law_draw", .glo "_law_drawn_lots", .glo "_law_size", .glo "_law_stretch_size", .glo "_law_arc_lot", .glo "_law_cut_size", .glo "_law_stretches_right", .glo "_law_arcs_right", .glo "_law_lies_in", .glo "_law_lots_right", .glo "law", .free "isinstance", .free "int", .free "bool", .free "str", .free "dict", .free "list", .free "tuple", .free "set", .free "all", .free "any", .free "zip", .free "enumerate", .free "range", .free "len", .free "min", .free "max", .free "abs", .free "sorted", .int "MOST_GAPS" 16, .int "MOST_LOTS" 400, .str "END" "end", .str "PART" "part"]
def tfl : List He.Defn := [("shortest", none), ("_law_stretch_size", none), ("_law_arcs_right", none)]
def exl (K : PySem.W.Frag) : Bool := decide ((tfl.map fun p => (He.cT K p).2).Nodup)
def tabl (K : PySem.W.Frag) : List (Addr × Str) := [((He.cT K ("shortest", none)).2, "shortest.<locals>.<lambda>"), ((He.cT K ("_law_stretch_size", none)).2, "_law_stretch_size.<locals>.<lambda>"), ((He.cT K ("_law_arcs_right", none)).2, "_law_arcs_right.<locals>.<lambda>")]
abbrev Rw : PySem.W.OpenRow := PySem.W.OpenLaw.row PySem.Challenge.rw_lanesmeet_k43_whole_stretches_and_arcs
abbrev hk : PySem.W.Hook := He.hookX 4 fal fnl [] tfl exl
def ob (s : PySem.W.SharedT) : He.AlX := He.obsX 4 fal fnl [] tfl exl (HandSHeadRun.getT s)
theorem ob_eq (s : PySem.W.SharedT) : ob s = hk.obs s.abs := He.obsX_eq (HandSHeadRun.getT_eq s)
def loose0 : List PySem.Str := ["LaneError", "BadMany", "BadLots", "BadNumber", "is_number", "is_list", "MOST_GAPS", "MOST_LOTS", "END", "PART", "is_lot", "need_lots", "open_lots", "shortest", "can_hit", "least_of", "least_hits", "grown", "need_number", "hit_tree", "is_hit_tree", "is_grown", "_law_begun", "_law_mixed_up", "_law_draw", "_law_drawn_lots", "_law_size", "_law_stretch_size", "_law_arc_lot", "_law_cut_size"]
def loose1 : List PySem.Str := ["_law_stretches_right", "_law_arcs_right", "_law_lies_in", "_law_lots_right"]
def loose : List PySem.Str := loose0 ++ loose1
theorem run (w : World) : HandSHeadRun.RunEq Rw (PySem.W.view Rw.prog [38]) hk ob 4000 loose w := by
  intro os
  kernel_rfl

theorem law_at {w : World} {K : PySem.W.Frag} {h : Heap} {mg : Str → Option Value} {fa : Addr} (X : K.In h) (G : h.Ns mainGlobals mg) (hfa : mg ("law" : Str) = some (.ref fa)) (c : He.SaysX fal fnl [] tfl exl w h K) :
    LawAtS PySem.Challenge.rw_lanesmeet_k43_whole_stretches_and_arcs w K C8.CX0 30 63 "_law_script" mg fa h := by
  have c1 : He.SaysD fal fnl K := congrArg (fun z : He.AlT => z.1) c.t
  obtain ⟨fd6, F6⟩ := c1.def_ 0 (d := dd6) rfl
  have g6 : mg ("is_number" : Str) = some (.ref (He.fAd K ("is_number", none))) := He.glo_ok X G (c1.fact 0 (f := .glo "is_number") rfl)
  obtain ⟨fd7, F7⟩ := c1.def_ 1 (d := dd7) rfl
  have g7 : mg ("is_list" : Str) = some (.ref (He.fAd K ("is_list", none))) := He.glo_ok X G (c1.fact 1 (f := .glo "is_list") rfl)
  obtain ⟨fd13, F13⟩ := c1.def_ 2 (d := dd13) rfl
  have g13 : mg ("is_lot" : Str) = some (.ref (He.fAd K ("is_lot", none))) := He.glo_ok X G (c1.fact 2 (f := .glo "is_lot") rfl)
  obtain ⟨fd14, F14⟩ := c1.def_ 3 (d := dd14) rfl
  have g14 : mg ("need_lots" : Str) = some (.ref (He.fAd K ("need_lots", none))) := He.glo_ok X G (c1.fact 3 (f := .glo "need_lots") rfl)
  obtain ⟨fd15, F15⟩ := c1.def_ 4 (d := dd15) rfl
  have g15 : mg ("open_lots" : Str) = some (.ref (He.fAd K ("open_lots", none))) := He.glo_ok X G (c1.fact 4 (f := .glo "open_lots") rfl)
  obtain ⟨fd16, F16⟩ := c1.def_ 5 (d := dd16) rfl
  have g16 : mg ("shortest" : Str) = some (.ref (He.fAd K ("shortest", none))) := He.glo_ok X G (c1.fact 5 (f := .glo "shortest") rfl)
  obtain ⟨fd17, F17⟩ := c1.def_ 6 (d := dd17) rfl
  have g17 : mg ("can_hit" : Str) = some (.ref (He.fAd K ("can_hit", none))) := He.glo_ok X G (c1.fact 6 (f := .glo "can_hit") rfl)
  obtain ⟨fd18, F18⟩ := c1.def_ 7 (d := dd18) rfl
  have g18 : mg ("least_of" : Str) = some (.ref (He.fAd K ("least_of", none))) := He.glo_ok X G (c1.fact 7 (f := .glo "least_of") rfl)
  obtain ⟨fd19, F19⟩ := c1.def_ 8 (d := dd19) rfl
  have g19 : mg ("least_hits" : Str) = some (.ref (He.fAd K ("least_hits", none))) := He.glo_ok X G (c1.fact 8 (f := .glo "least_hits") rfl)
  obtain ⟨fd20, F20⟩ := c1.def_ 9 (d := dd20) rfl
  have g20 : mg ("grown" : Str) = some (.ref (He.fAd K ("grown", none))) := He.glo_ok X G (c1.fact 9 (f := .glo "grown") rfl)
  obtain ⟨fd21, F21⟩ := c1.def_ 10 (d := dd21) rfl
  have g21 : mg ("need_number" : Str) = some (.ref (He.fAd K ("need_number", none))) := He.glo_ok X G (c1.fact 10 (f := .glo "need_number") rfl)
  obtain ⟨fd22, F22⟩ := c1.def_ 11 (d := dd22) rfl
  have g22 : mg ("hit_tree" : Str) = some (.ref (He.fAd K ("hit_tree", none))) := He.glo_ok X G (c1.fact 11 (f := .glo "hit_tree") rfl)
  obtain ⟨fd23, F23⟩ := c1.def_ 12 (d := dd23) rfl
  have g23 : mg ("is_hit_tree" : Str) = some (.ref (He.fAd K ("is_hit_tree", none))) := He.glo_ok X G (c1.fact 12 (f := .glo "is_hit_tree") rfl)
  obtain ⟨fd24, F24⟩ := c1.def_ 13 (d := dd24) rfl
  have g24 : mg ("is_grown" : Str) = some (.ref (He.fAd K ("is_grown", none))) := He.glo_ok X G (c1.fact 13 (f := .glo "is_grown") rfl)
  obtain ⟨fd26, F26⟩ := c1.def_ 14 (d := dd26) rfl
  have g26 : mg ("_law_begun" : Str) = some (.ref (He.fAd K ("_law_begun", none))) := He.glo_ok X G (c1.fact 14 (f := .glo "_law_begun") rfl)
  obtain ⟨fd27, F27⟩ := c1.def_ 15 (d := dd27) rfl
  have g27 : mg ("_law_mixed_up" : Str) = some (.ref (He.fAd K ("_law_mixed_up", none))) := He.glo_ok X G (c1.fact 15 (f := .glo "_law_mixed_up") rfl)
  obtain ⟨fd28, F28⟩ := c1.def_ 16 (d := dd28) rfl
  have g28 : mg ("_law_draw" : Str) = some (.ref (He.fAd K ("_law_draw", none))) := He.glo_ok X G (c1.fact 16 (f := .glo "_law_draw") rfl)
  obtain ⟨fd29, F29⟩ := c1.def_ 17 (d := dd29) rfl
  have g29 : mg ("_law_drawn_lots" : Str) = some (.ref (He.fAd K ("_law_drawn_lots", none))) := He.glo_ok X G (c1.fact 17 (f := .glo "_law_drawn_lots") rfl)
  obtain ⟨fd30, F30⟩ := c1.def_ 18 (d := dd30) rfl
  have g30 : mg ("_law_size" : Str) = some (.ref (He.fAd K ("_law_size", none))) := He.glo_ok X G (c1.fact 18 (f := .glo "_law_size") rfl)
  obtain ⟨fd31, F31⟩ := c1.def_ 19 (d := dd31) rfl
  have g31 : mg ("_law_stretch_size" : Str) = some (.ref (He.fAd K ("_law_stretch_size", none))) := He.glo_ok X G (c1.fact 19 (f := .glo "_law_stretch_size") rfl)
  obtain ⟨fd32, F32⟩ := c1.def_ 20 (d := dd32) rfl
  have g32 : mg ("_law_arc_lot" : Str) = some (.ref (He.fAd K ("_law_arc_lot", none))) := He.glo_ok X G (c1.fact 20 (f := .glo "_law_arc_lot") rfl)
  obtain ⟨fd33, F33⟩ := c1.def_ 21 (d := dd33) rfl
  have g33 : mg ("_law_cut_size" : Str) = some (.ref (He.fAd K ("_law_cut_size", none))) := He.glo_ok X G (c1.fact 21 (f := .glo "_law_cut_size") rfl)
  obtain ⟨fd34, F34⟩ := c1.def_ 22 (d := dd34) rfl
  have g34 : mg ("_law_stretches_right" : Str) = some (.ref (He.fAd K ("_law_stretches_right", none))) := He.glo_ok X G (c1.fact 22 (f := .glo "_law_stretches_right") rfl)
  obtain ⟨fd35, F35⟩ := c1.def_ 23 (d := dd35) rfl
  have g35 : mg ("_law_arcs_right" : Str) = some (.ref (He.fAd K ("_law_arcs_right", none))) := He.glo_ok X G (c1.fact 23 (f := .glo "_law_arcs_right") rfl)
  obtain ⟨fd36, F36⟩ := c1.def_ 24 (d := dd36) rfl
  have g36 : mg ("_law_lies_in" : Str) = some (.ref (He.fAd K ("_law_lies_in", none))) := He.glo_ok X G (c1.fact 24 (f := .glo "_law_lies_in") rfl)
  obtain ⟨fd37, F37⟩ := c1.def_ 25 (d := dd37) rfl
  have g37 : mg ("_law_lots_right" : Str) = some (.ref (He.fAd K ("_law_lots_right", none))) := He.glo_ok X G (c1.fact 25 (f := .glo "_law_lots_right") rfl)
  obtain ⟨fd38, F38⟩ := c1.def_ 26 (d := dd38) rfl
  have g38 : mg ("law" : Str) = some (.ref (He.fAd K ("law", none))) := He.glo_ok X G (c1.fact 26 (f := .glo "law") rfl)
  have B : Bn mg := {
    isinstance := He.free_ok X G (c1.fact 27 (f := .free "isinstance") rfl)
    int := He.free_ok X G (c1.fact 28 (f := .free "int") rfl)
    bool := He.free_ok X G (c1.fact 29 (f := .free "bool") rfl)
    str := He.free_ok X G (c1.fact 30 (f := .free "str") rfl)
    dict := He.free_ok X G (c1.fact 31 (f := .free "dict") rfl)
    list := He.free_ok X G (c1.fact 32 (f := .free "list") rfl)
    tuple := He.free_ok X G (c1.fact 33 (f := .free "tuple") rfl)
    set := He.free_ok X G (c1.fact 34 (f := .free "set") rfl)
    all := He.free_ok X G (c1.fact 35 (f := .free "all") rfl)
    any := He.free_ok X G (c1.fact 36 (f := .free "any") rfl)
    zip := He.free_ok X G (c1.fact 37 (f := .free "zip") rfl)
    enumerate := He.free_ok X G (c1.fact 38 (f := .free "enumerate") rfl)
    range := He.free_ok X G (c1.fact 39 (f := .free "range") rfl)
    len := He.free_ok X G (c1.fact 40 (f := .free "len") rfl)
    min := He.free_ok X G (c1.fact 41 (f := .free "min") rfl)
    max := He.free_ok X G (c1.fact 42 (f := .free "max") rfl)
    abs := He.free_ok X G (c1.fact 43 (f := .free "abs") rfl)
    sorted := He.free_ok X G (c1.fact 44 (f := .free "sorted") rfl)
    cMOST_GAPS := He.int_ok X G (c1.fact 45 (f := .int "MOST_GAPS" 16) rfl)
    cMOST_LOTS := He.int_ok X G (c1.fact 46 (f := .int "MOST_LOTS" 400) rfl)
    cEND := He.str_ok X G (c1.fact 47 (f := .str "END" "end") rfl)
    cPART := He.str_ok X G (c1.fact 48 (f := .str "PART" "part") rfl)
  }
  have d6 : Df K mg "is_number" (top 6) ["value"] fd6.code := df_of F6 g6 fun _ _ _ _ _ _ us hl => match us, hl with | [_], _ => rfl
  have d7 : Df K mg "is_list" (top 7) ["value"] fd7.code := df_of F7 g7 fun _ _ _ _ _ _ us hl => match us, hl with | [_], _ => rfl
  have d13 : Df K mg "is_lot" (top 13) ["many", "thing"] fd13.code := df_of F13 g13 fun _ _ _ _ _ _ us hl => match us, hl with | [_, _], _ => rfl
  have d14 : Df K mg "need_lots" (top 14) ["many", "lots"] fd14.code := df_of F14 g14 fun _ _ _ _ _ _ us hl => match us, hl with | [_, _], _ => rfl
  have d15 : Df K mg "open_lots" (top 15) ["lots", "taken"] fd15.code := df_of F15 g15 fun _ _ _ _ _ _ us hl => match us, hl with | [_, _], _ => rfl
  have d16 : Df K mg "shortest" (top 16) ["lots", "indexes"] (.ref (He.cT K ("shortest", none)).1) := df_tab F16 g16 fun _ _ _ _ _ _ us hl => match us, hl with | [_, _], _ => rfl
  have d17 : Df K mg "can_hit" (top 17) ["lots", "taken", "more", "first"] fd17.code := df_of F17 g17 fun _ _ _ _ _ _ us hl => match us, hl with | [_, _, _, _], _ => rfl
  have d18 : Df K mg "least_of" (top 18) ["many", "lots", "size"] fd18.code := df_of F18 g18 fun _ _ _ _ _ _ us hl => match us, hl with | [_, _, _], _ => rfl
  have d19 : Df K mg "least_hits" (top 19) ["many", "lots"] fd19.code := df_of F19 g19 fun _ _ _ _ _ _ us hl => match us, hl with | [_, _], _ => rfl
  have d20 : Df K mg "grown" (top 20) ["lots", "taken", "more"] fd20.code := df_of F20 g20 fun _ _ _ _ _ _ us hl => match us, hl with | [_, _, _], _ => rfl
  have d21 : Df K mg "need_number" (top 21) ["number"] fd21.code := df_of F21 g21 fun _ _ _ _ _ _ us hl => match us, hl with | [_], _ => rfl
  have d22 : Df K mg "hit_tree" (top 22) ["many", "lots", "number"] fd22.code := df_of F22 g22 fun _ _ _ _ _ _ us hl => match us, hl with | [_, _, _], _ => rfl
  have d23 : Df K mg "is_hit_tree" (top 23) ["many", "lots", "number", "thing"] fd23.code := df_of F23 g23 fun _ _ _ _ _ _ us hl => match us, hl with | [_, _, _, _], _ => rfl
  have d24 : Df K mg "is_grown" (top 24) ["lots", "taken", "more", "thing"] fd24.code := df_of F24 g24 fun _ _ _ _ _ _ us hl => match us, hl with | [_, _, _, _], _ => rfl
  have d26 : Df K mg "_law_begun" (top 26) ["_law_script"] fd26.code := df_of F26 g26 fun _ _ _ _ _ _ us hl => match us, hl with | [_], _ => rfl
  have d27 : Df K mg "_law_mixed_up" (top 27) ["_law_state"] fd27.code := df_of F27 g27 fun _ _ _ _ _ _ us hl => match us, hl with | [_], _ => rfl
  have d28 : Df K mg "_law_draw" (top 28) ["_law_state", "_law_size_here"] fd28.code := df_of F28 g28 fun _ _ _ _ _ _ us hl => match us, hl with | [_, _], _ => rfl
  have d29 : Df K mg "_law_drawn_lots" (top 29) ["_law_state", "_law_many_here"] fd29.code := df_of F29 g29 fun _ _ _ _ _ _ us hl => match us, hl with | [_, _], _ => rfl
  have d30 : Df K mg "_law_size" (top 30) ["_law_many_here", "_law_lots"] fd30.code := df_of F30 g30 fun _ _ _ _ _ _ us hl => match us, hl with | [_, _], _ => rfl
  have d31 : Df K mg "_law_stretch_size" (top 31) ["_law_pairs"] (.ref (He.cT K ("_law_stretch_size", none)).1) := df_tab F31 g31 fun _ _ _ _ _ _ us hl => match us, hl with | [_], _ => rfl
  have d32 : Df K mg "_law_arc_lot" (top 32) ["_law_many_here", "_law_pair"] fd32.code := df_of F32 g32 fun _ _ _ _ _ _ us hl => match us, hl with | [_, _], _ => rfl
  have d33 : Df K mg "_law_cut_size" (top 33) ["_law_many_here", "_law_pairs", "_law_gap"] fd33.code := df_of F33 g33 fun _ _ _ _ _ _ us hl => match us, hl with | [_, _, _], _ => rfl
  have d34 : Df K mg "_law_stretches_right" (top 34) ["_law_state", "_law_many_here"] fd34.code := df_of F34 g34 fun _ _ _ _ _ _ us hl => match us, hl with | [_, _], _ => rfl
  have d35 : Df K mg "_law_arcs_right" (top 35) ["_law_state", "_law_many_here"] (.ref (He.cT K ("_law_arcs_right", none)).1) := df_tab F35 g35 fun _ _ _ _ _ _ us hl => match us, hl with | [_, _], _ => rfl
  have d36 : Df K mg "_law_lies_in" (top 36) ["_law_one", "_law_two"] fd36.code := df_of F36 g36 fun _ _ _ _ _ _ us hl => match us, hl with | [_, _], _ => rfl
  have d37 : Df K mg "_law_lots_right" (top 37) ["_law_state", "_law_many_here", "_law_lots"] fd37.code := df_of F37 g37 fun _ _ _ _ _ _ us hl => match us, hl with | [_, _, _], _ => rfl
  have e := hfa.symm.trans g38
  cases e
  have hnd : (tfl.map fun p => (He.cT K p).2).Nodup := of_decide_eq_true c.more
  have hu : ∀ p ∈ tabl K, ∀ q ∈ tabl K, p.1 = q.1 → p.2 = q.2 := by
    have hnd2 : ((tabl K).map (·.1)).Nodup := hnd
    exact tab_uniq hnd2
  refine ⟨fd38, tfl.map (He.cT K), SpLaw (tabl K) K, fun p hp => ?_, fun p hp => ?_, fun p hp => ?_, fun s v => ?_, fun H a ns hl _ hT hS => ?_, fun base _ _ hTB => ?_⟩
  · obtain ⟨q, hq, rfl⟩ := List.mem_map.mp hp; exact c.empty q hq
  · obtain ⟨q, hq, rfl⟩ := List.mem_map.mp hp; exact c.out q hq
  · obtain ⟨q, hq, rfl⟩ := List.mem_map.mp hp; exact PySem.W.codeHd_of_K X (c.hd q hq)
  · exact (FunD.bindsA (ps := ["_law_script"]) F38 fun _ _ _ _ _ _ us hl => match us, hl with | [_], _ => rfl) s [v] rfl
  · exact ⟨a, ns, rfl, tabs_start fun p hp => by
      obtain ⟨q, hq, e⟩ : ∃ q ∈ tfl, (He.cT K q).2 = p.1 := by
        simp only [tabl, List.mem_cons, List.mem_nil_iff, or_false] at hp
        rcases hp with rfl | rfl | rfl
        · exact ⟨("shortest", none), by simp [tfl], rfl⟩
        · exact ⟨("_law_stretch_size", none), by simp [tfl], rfl⟩
        · exact ⟨("_law_arcs_right", none), by simp [tfl], rfl⟩
      rw [← e]
      exact hT _ (List.mem_map.mpr ⟨q, hq, rfl⟩), hS, hl, fun _ => rfl⟩
  have tb_shortest : TabB base mg (He.cT K ("shortest", none)).1 (He.cT K ("shortest", none)).2 := hTB (He.cT K ("shortest", none)) (List.mem_map.mpr ⟨("shortest", none), by simp [tfl], rfl⟩)
  have ht_shortest : ((He.cT K ("shortest", none)).2, ("shortest.<locals>.<lambda>" : Str)) ∈ tabl K := by simp [tabl]
  have hu_shortest : ∀ p ∈ tabl K, p.1 = (He.cT K ("shortest", none)).2 → p.2 = ("shortest.<locals>.<lambda>" : Str) := fun p hp e => hu p hp _ ht_shortest e
  have tb__law_stretch_size : TabB base mg (He.cT K ("_law_stretch_size", none)).1 (He.cT K ("_law_stretch_size", none)).2 := hTB (He.cT K ("_law_stretch_size", none)) (List.mem_map.mpr ⟨("_law_stretch_size", none), by simp [tfl], rfl⟩)
  have ht__law_stretch_size : ((He.cT K ("_law_stretch_size", none)).2, ("_law_stretch_size.<locals>.<lambda>" : Str)) ∈ tabl K := by simp [tabl]
  have hu__law_stretch_size : ∀ p ∈ tabl K, p.1 = (He.cT K ("_law_stretch_size", none)).2 → p.2 = ("_law_stretch_size.<locals>.<lambda>" : Str) := fun p hp e => hu p hp _ ht__law_stretch_size e
  have tb__law_arcs_right : TabB base mg (He.cT K ("_law_arcs_right", none)).1 (He.cT K ("_law_arcs_right", none)).2 := hTB (He.cT K ("_law_arcs_right", none)) (List.mem_map.mpr ⟨("_law_arcs_right", none), by simp [tfl], rfl⟩)
  have ht__law_arcs_right : ((He.cT K ("_law_arcs_right", none)).2, ("_law_arcs_right.<locals>.<lambda>" : Str)) ∈ tabl K := by simp [tabl]
  have hu__law_arcs_right : ∀ p ∈ tabl K, p.1 = (He.cT K ("_law_arcs_right", none)).2 → p.2 = ("_law_arcs_right.<locals>.<lambda>" : Str) := fun p hp e => hu p hp _ ht__law_arcs_right e
  have c6 := ok_is_number (P := PySem.Challenge.rw_lanesmeet_k43_whole_stretches_and_arcs.prog) (w := w) (base := base) (T := tabl K) d6 B
  have c7 := ok_is_list (P := PySem.Challenge.rw_lanesmeet_k43_whole_stretches_and_arcs.prog) (w := w) (base := base) (T := tabl K) d7 B
  have c13 := ok_is_lot d13 B c6
  have c14 := ok_need_lots d14 B c6 c7 c13
  have c15 := ok_open_lots (P := PySem.Challenge.rw_lanesmeet_k43_whole_stretches_and_arcs.prog) (w := w) (base := base) (T := tabl K) d15 B
  have c16 := ok_shortest (P := PySem.Challenge.rw_lanesmeet_k43_whole_stretches_and_arcs.prog) (w := w) d16 tb_shortest ht_shortest hu_shortest B
  have c17 := can_hit_all d17 B c15 c16 18
  have c18 := ok_least_of d18 B c17
  have c19 := ok_least_hits d19 B c14 c17 c18
  have c20 := grown_all d20 B c15 c16 18
  have c21 := ok_need_number d21 B c6
  have c22 := ok_hit_tree d22 B c14 c21 c17 c20
  have c24 := is_grown_all d24 B c6 18
  have c23 := ok_is_hit_tree d23 B c14 c21 c24
  have c26 := ok_law_begun (P := PySem.Challenge.rw_lanesmeet_k43_whole_stretches_and_arcs.prog) (w := w) (base := base) (T := tabl K) d26 B
  have c27 := ok_law_mixed_up (P := PySem.Challenge.rw_lanesmeet_k43_whole_stretches_and_arcs.prog) (w := w) (base := base) (T := tabl K) d27 B
  have c28 := ok_law_draw d28 B c27
  have c29 := ok_law_drawn_lots d29 B c28
  have c30 := ok_law_size maths1.has d30 B c19
  have c31 := ok_law_stretch_size (P := PySem.Challenge.rw_lanesmeet_k43_whole_stretches_and_arcs.prog) (w := w) d31 tb__law_stretch_size ht__law_stretch_size hu__law_stretch_size B
  have c32 := ok_law_arc_lot (P := PySem.Challenge.rw_lanesmeet_k43_whole_stretches_and_arcs.prog) (w := w) (base := base) (T := tabl K) d32 B
  have c33 := ok_law_cut_size d33 B c32 c31
  have c36 := ok_law_lies_in (P := PySem.Challenge.rw_lanesmeet_k43_whole_stretches_and_arcs.prog) (w := w) (base := base) (T := tabl K) d36 B
  have c37 := ok_law_lots_right maths1 d37 B c28 c30 c36 c19 c22 c23
  have c34 := ok_law_stretches_right maths2 d34 B c28 c30 c31 c37
  have c35 := ok_law_arcs_right maths3 d35 tb__law_arcs_right ht__law_arcs_right hu__law_arcs_right B c28 c30 c32 c33 c37
  exact ok_law maths1 maths4 F38 B c28 c26 c34 c35 c29 c30 c19
end K43
open PySem PySem.W PySem.Calls PyProof.Rows
set_option maxRecDepth 100000 in
set_option maxHeartbeats 0 in
theorem PySem.Challenge.cw_lanesmeet_k43_whole_stretches_and_arcs_holds : PySem.Challenge.rw_lanesmeet_k43_whole_stretches_and_arcs.Holds := by
  w_on; o_law
  refine HandSHeadRun.head_any (r := OpenLaw.row PySem.Challenge.rw_lanesmeet_k43_whole_stretches_and_arcs) (q := view (OpenLaw.row PySem.Challenge.rw_lanesmeet_k43_whole_stretches_and_arcs).prog [38]) (H := K43.hk) (ob := K43.ob) (M := 4000) (loose := K43.loose) (d := HandSHeadRun.topDef (OpenLaw.row PySem.Challenge.rw_lanesmeet_k43_whole_stretches_and_arcs).prog 38) (kwd := []) K43.ob_eq
    (by kernel_rfl) (fun s => by kernel_rfl) K43.run (by kernel_rfl) (by kernel_rfl) (by kernel_rfl) (by rfl) (by first | assumption | decide +kernel) (by decide +kernel) ⟨rfl, rfl, rfl, rfl, rfl, by decide +kernel⟩ ?hw ?hc
  case hw => w_witness2
  case hc =>
    refine LamX.walk_ofTsE (l := PySem.Challenge.rw_lanesmeet_k43_whole_stretches_and_arcs) (n := 63) (k := 30) (x := "_law_script") (CX := fun _ => C8.CX0) rfl (by decide) (by kernel_rfl) ⟨rfl, by decide, by decide⟩ ?F (fun _ _ _ _ _ z => z)
    intro w mg fa h Y G hmg0
    obtain ⟨K, KX, c⟩ := Y
    have hmg : mg ("law" : PySem.Str) = some (.ref fa) := by
      have e : (HandSHeadRun.topDef (OpenLaw.row PySem.Challenge.rw_lanesmeet_k43_whole_stretches_and_arcs).prog 38).name = ("law" : PySem.Str) := by kernel_rfl
      rw [← e]
      exact hmg0
    exact ⟨K, KX, K43.law_at KX G hmg c⟩

