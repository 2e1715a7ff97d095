import PyProof.Rows.All
import Wide.All
import OpenK.AllK
import Wide.FinOn
import PyProof.EqAt
import PyProof.EqKinds
import PyProof.TupleCall
import HandS.ForSpec
import HandS.ForMost
import HandS.IsInst
import HandS.TryMany
import HandS.Wide
import HandS.EndBits
import HandS.TupAny
import HandS.TupMul
import HandS.Style
import HandS.Conv
import HandS.Zip
import HandS.Flow
import HandS.Deep
import HandS.GenList
import KE.KDictZip
import PySem.Challenge.RW_loopstell_k05_whole_one_endless_row_in_m
set_option Elab.async false
set_option linter.all false
set_option maxRecDepth 100000
set_option maxHeartbeats 4000000
/-! Pd: pure data over the abstract heap. D: data without addresses; Rep: how a value and a heap bear it. -/
namespace Pd
open PySem L2

/-- both ways -/
def IteB (b : Bool) (p q : Prop) : Prop := (b = true → p) ∧ (b = false → q)
theorem IteB.same {b : Bool} {p : Prop} (h : p) : IteB b p p := ⟨fun _ => h, fun _ => h⟩
theorem IteB.t {b : Bool} {p q : Prop} (h : b = true) (k : p) : IteB b p q := ⟨fun _ => k, fun z => by rw [h] at z; cases z⟩
theorem IteB.f {b : Bool} {p q : Prop} (h : b = false) (k : q) : IteB b p q := ⟨fun z => by (rw [h] at z; cases z), fun _ => k⟩
/-- data. deal: where draws come from; scr: the script -/
inductive D where
  | non | bl (b : Bool) | int (i : Int) | str (s : Str)
  | tup (ds : List D) | lst (ds : List D)
  | obj (cn : Str) (fs : List Str) (ds : List D)
  | deal | scr (ns : List Int)
  deriving Inhabited
/-- what a slot may hold: data, or the n-th list of the def's own (it may change) -/
inductive Va where
  | dat (d : D) | loc (n : Nat)
  deriving Inhabited

/-- the def's own lists (ads: all, liv: those that may still change), deals (the outer and the inner list), the callers' lists -/
structure Wd where
  ads : List Addr
  liv : List Addr
  gam : List (Addr × Addr)
  phi : List Addr
def Wd.gs (ω : Wd) : List Addr := ω.gam.map (·.1) ++ ω.gam.map (·.2)
def Wd.mut (ω : Wd) : List Addr := ω.liv ++ ω.gs
def Wd.busy (ω : Wd) : List Addr := ω.mut ++ ω.phi

/-- the numbers that a deal keeps -/
def wideN : Int := (10 : Int) ^ 384
def CellsOk (cs : List Int) : Prop := cs.length ≤ 63 ∧ ∀ c ∈ cs, 0 ≤ c ∧ c < wideN
def DealOk (H : Hp) (p : Addr × Addr) : Prop := ∃ (m : Int) (cs : List Int), H p.1 = some (.lst [.ref p.2, .int m]) ∧ H p.2 = some (.lst (cs.map V.int)) ∧ CellsOk cs ∧ 0 ≤ m ∧ m < 2147483647

structure WOk (ω : Wd) (H : Hp) : Prop where
  nd : ω.busy.Nodup
  nda : ω.ads.Nodup
  all : ∀ a ∈ ω.ads, ∃ xs, H a = some (.lst xs)
  sub : ∀ a ∈ ω.liv, a ∈ ω.ads
  dls : ∀ p ∈ ω.gam, DealOk H p
  out : ∀ a ∈ ω.phi, ∃ xs, H a = some (.lst xs)

section
variable (K : PySem.W.Frag) (mg : Str → Option Value)
mutual
inductive Rep (ω : Wd) (H : Hp) : V → D → Prop
  | non : Rep ω H .non .non
  | bl (b : Bool) : Rep ω H (.bl b) (.bl b)
  | int (i : Int) : Rep ω H (.int i) (.int i)
  | str (x : Str) : Rep ω H (.str x) (.str x)
  | tup {a : Addr} {xs : List V} {ds : List D} : SqT K H a xs → Reps ω H xs ds → Rep ω H (.ref a) (.tup ds)
  | lst {a : Addr} {xs : List V} {ds : List D} : H a = some (.lst xs) → a ∉ ω.busy → Reps ω H xs ds → Rep ω H (.ref a) (.lst ds)
  | obj {a C dx : Addr} {cn : Str} {fs : List Str} {xs : List V} {ds : List D} : mg cn = some (.ref C) → H a = some (.ins C dx (fs.zip xs)) → fs.length = xs.length → Reps ω H xs ds → Rep ω H (.ref a) (.obj cn fs ds)
  | deal {a q : Addr} : (a, q) ∈ ω.gam → Rep ω H (.ref a) .deal
  | scr {a : Addr} {ns : List Int} : (∃ o, H a = some (.frz o (.lst (ns.map V.int)))) ∨ (∀ H', SqL K H' a (ns.map V.int)) → Rep ω H (.ref a) (.scr ns)
inductive Reps (ω : Wd) (H : Hp) : List V → List D → Prop
  | nil : Reps ω H [] []
  | cons {v : V} {vs : List V} {d : D} {ds : List D} : Rep ω H v d → Reps ω H vs ds → Reps ω H (v :: vs) (d :: ds)
end
inductive RepV (ω : Wd) (H : Hp) : V → Va → Prop
  | dat {v : V} {d : D} : Rep K mg ω H v d → RepV ω H v (.dat d)
  | loc {a : Addr} {n : Nat} : ω.ads[n]? = some a → RepV ω H (.ref a) (.loc n)
inductive RepVs (ω : Wd) (H : Hp) : List V → List Va → Prop
  | nil : RepVs ω H [] []
  | cons {v : V} {vs : List V} {x : Va} {xs : List Va} : RepV K mg ω H v x → RepVs ω H vs xs → RepVs ω H (v :: vs) (x :: xs)
end

section
variable {K : PySem.W.Frag} {mg : Str → Option Value} {ω ω' ω'' : Wd} {H H' H'' : Hp}

theorem Reps.length : ∀ {xs : List V} {ds : List D}, Reps K mg ω H xs ds → xs.length = ds.length
  | _, _, .nil => rfl
  | _, _, .cons _ t => by simp [Reps.length t]
theorem Reps.get : ∀ {xs : List V} {ds : List D} {i : Nat} {d : D}, Reps K mg ω H xs ds → ds[i]? = some d → ∃ v, xs[i]? = some v ∧ Rep K mg ω H v d
  | _, _, _, _, .nil, e => by simp at e
  | _, _, 0, _, .cons r _, e => by simp at e; subst e; exact ⟨_, rfl, r⟩
  | _, _, i + 1, d, .cons _ t, e => by
    obtain ⟨v, h1, h2⟩ := Reps.get (i := i) (d := d) t (by simpa using e)
    exact ⟨v, by simpa using h1, h2⟩
theorem Reps.getV : ∀ {xs : List V} {ds : List D} {i : Nat} {v : V}, Reps K mg ω H xs ds → xs[i]? = some v → ∃ d, ds[i]? = some d ∧ Rep K mg ω H v d
  | _, _, _, _, .nil, e => by simp at e
  | _, _, 0, _, .cons r _, e => by simp at e; subst e; exact ⟨_, rfl, r⟩
  | _, _, i + 1, v, .cons _ t, e => by
    obtain ⟨d, h1, h2⟩ := Reps.getV (i := i) (v := v) t (by simpa using e)
    exact ⟨d, by simpa using h1, h2⟩
theorem Reps.append : ∀ {xs ys : List V} {ds es : List D}, Reps K mg ω H xs ds → Reps K mg ω H ys es → Reps K mg ω H (xs ++ ys) (ds ++ es)
  | _, _, _, _, .nil, s => s
  | _, _, _, _, .cons r t, s => .cons r (Reps.append t s)
theorem Reps.take : ∀ {xs : List V} {ds : List D} (n : Nat), Reps K mg ω H xs ds → Reps K mg ω H (xs.take n) (ds.take n)
  | _, _, 0, _ => .nil
  | _, _, _ + 1, .nil => .nil
  | _, _, n + 1, .cons r t => .cons r (Reps.take n t)
theorem Reps.drop : ∀ {xs : List V} {ds : List D} (n : Nat), Reps K mg ω H xs ds → Reps K mg ω H (xs.drop n) (ds.drop n)
  | _, _, 0, r => r
  | _, _, _ + 1, .nil => .nil
  | _, _, n + 1, .cons _ t => Reps.drop n t
theorem Reps.set : ∀ {xs : List V} {ds : List D} {v : V} {d : D} (i : Nat), Rep K mg ω H v d → Reps K mg ω H xs ds → Reps K mg ω H (xs.set i v) (ds.set i d)
  | _, _, _, _, _, _, .nil => .nil
  | _, _, _, _, 0, r, .cons _ t => .cons r t
  | _, _, _, _, i + 1, r, .cons q t => .cons q (Reps.set i r t)
theorem Reps.reverse : ∀ {xs : List V} {ds : List D}, Reps K mg ω H xs ds → Reps K mg ω H xs.reverse ds.reverse
  | _, _, .nil => .nil
  | _, _, .cons r t => by rw [List.reverse_cons, List.reverse_cons]; exact (Reps.reverse t).append (.cons r .nil)

/-- how worlds go on: own lists are added at the end, deals too; all but the lists that may change stands -/
structure Ext (ω : Wd) (H : Hp) (ω' : Wd) (H' : Hp) : Prop where
  ads : ∃ l, ω'.ads = ω.ads ++ l
  gam : ∃ l, ω'.gam = ω.gam ++ l
  phi : ω'.phi = ω.phi
  keep : ∀ a o, H a = some o → a ∉ ω.mut → H' a = some o ∧ a ∉ ω'.mut
theorem Ext.refl (ω : Wd) (H : Hp) : Ext ω H ω H := ⟨⟨[], by simp⟩, ⟨[], by simp⟩, rfl, fun _ _ h n => ⟨h, n⟩⟩
theorem Ext.of_same (s : Same H H') : Ext ω H ω H' := ⟨⟨[], by simp⟩, ⟨[], by simp⟩, rfl, fun _ _ h n => ⟨s _ _ h, n⟩⟩
theorem Ext.trans (a : Ext ω H ω' H') (b : Ext ω' H' ω'' H'') : Ext ω H ω'' H'' := by
  obtain ⟨l1, e1⟩ := a.ads
  obtain ⟨l2, e2⟩ := b.ads
  obtain ⟨m1, f1⟩ := a.gam
  obtain ⟨m2, f2⟩ := b.gam
  refine ⟨⟨l1 ++ l2, by rw [e2, e1, List.append_assoc]⟩, ⟨m1 ++ m2, by rw [f2, f1, List.append_assoc]⟩, b.phi.trans a.phi, fun x o h n => ?_⟩
  obtain ⟨h1, n1⟩ := a.keep x o h n
  exact b.keep x o h1 n1
theorem mem_busy {a : Addr} : a ∈ ω.busy ↔ a ∈ ω.mut ∨ a ∈ ω.phi := List.mem_append
/-- the same, where lists of others may come -/
structure ExtP (ω : Wd) (H : Hp) (ω' : Wd) (H' : Hp) : Prop where
  ads : ∃ l, ω'.ads = ω.ads ++ l
  gam : ∃ l, ω'.gam = ω.gam ++ l
  phi : ∀ a o, H a = some o → a ∈ ω'.phi → a ∈ ω.phi
  keep : ∀ a o, H a = some o → a ∉ ω.mut → H' a = some o ∧ a ∉ ω'.mut
theorem Ext.toP (e : Ext ω H ω' H') : ExtP ω H ω' H' := ⟨e.ads, e.gam, fun a o _ q => by rw [e.phi] at q; exact q, e.keep⟩
theorem WOk.gsl (w : WOk ω H) {a : Addr} (h : a ∈ ω.gs) : ∃ xs, H a = some (.lst xs) := by
  unfold Wd.gs at h
  rcases List.mem_append.mp h with h | h
  · obtain ⟨p, hp, rfl⟩ := List.mem_map.mp h
    obtain ⟨m, cs, h1, _⟩ := w.dls p hp
    exact ⟨_, h1⟩
  · obtain ⟨p, hp, rfl⟩ := List.mem_map.mp h
    obtain ⟨m, cs, _, h1, _⟩ := w.dls p hp
    exact ⟨_, h1⟩
theorem WOk.mut (w : WOk ω H) {a : Addr} (h : a ∈ ω.mut) : ∃ xs, H a = some (.lst xs) := by
  rcases List.mem_append.mp h with h | h
  · exact w.all a (w.sub a h)
  · exact w.gsl h
theorem WOk.busyl (w : WOk ω H) {a : Addr} (h : a ∈ ω.busy) : ∃ xs, H a = some (.lst xs) := by
  rcases mem_busy.mp h with h | h
  · exact w.mut h
  · exact w.out a h
theorem Ext.transP (a : Ext ω H ω' H') (b : ExtP ω' H' ω'' H'') (tr : ∀ x o, H x = some o → ∃ o', H' x = some o') : ExtP ω H ω'' H'' := by
  obtain ⟨l1, e1⟩ := a.ads
  obtain ⟨l2, e2⟩ := b.ads
  obtain ⟨m1, f1⟩ := a.gam
  obtain ⟨m2, f2⟩ := b.gam
  refine ⟨⟨l1 ++ l2, by rw [e2, e1, List.append_assoc]⟩, ⟨m1 ++ m2, by rw [f2, f1, List.append_assoc]⟩, fun x o h q => ?_, fun x o h n => ?_⟩
  · obtain ⟨o', h'⟩ := tr x o h
    have z := b.phi x o' h' q
    rw [a.phi] at z
    exact z
  · obtain ⟨h1, n1⟩ := a.keep x o h n
    exact b.keep x o h1 n1
theorem ExtP.nb (e : ExtP ω H ω' H') {a : Addr} {o : HO} (h : H a = some o) (n : a ∉ ω.busy) : a ∉ ω'.busy := fun q => by
  have n1 : a ∉ ω.mut := fun z => n (mem_busy.mpr (.inl z))
  rcases mem_busy.mp q with z | z
  · exact (e.keep a o h n1).2 z
  · exact n (mem_busy.mpr (.inr (e.phi a o h z)))
theorem Ext.nb (e : Ext ω H ω' H') {a : Addr} {o : HO} (h : H a = some o) (n : a ∉ ω.busy) : a ∉ ω'.busy := e.toP.nb h n
/-- what is no list stands -/
theorem ExtP.stay (e : ExtP ω H ω' H') (w : WOk ω H) {a : Addr} {o : HO} (h : H a = some o) (n : ∀ xs, o ≠ .lst xs) : H' a = some o := by
  refine (e.keep a o h fun q => ?_).1
  obtain ⟨xs, z⟩ := w.mut q
  rw [h] at z
  exact n xs (Option.some.inj z)
theorem Ext.stay (e : Ext ω H ω' H') (w : WOk ω H) {a : Addr} {o : HO} (h : H a = some o) (n : ∀ xs, o ≠ .lst xs) : H' a = some o := e.toP.stay w h n
theorem ExtP.sqt (e : ExtP ω H ω' H') (w : WOk ω H) {a : Addr} {xs : List V} (h : SqT K H a xs) : SqT K H' a xs := by
  rcases h with (h | ⟨o, h⟩) | h
  · exact .inl (.inl (e.stay w h fun _ z => by cases z))
  · exact .inl (.inr ⟨o, e.stay w h fun _ z => by cases z⟩)
  · exact .inr h
theorem Ext.sqt (e : Ext ω H ω' H') (w : WOk ω H) {a : Addr} {xs : List V} (h : SqT K H a xs) : SqT K H' a xs := e.toP.sqt w h
mutual
theorem Rep.monoP (e : ExtP ω H ω' H') (w : WOk ω H) : ∀ {v : V} {d : D}, Rep K mg ω H v d → Rep K mg ω' H' v d
  | _, _, .non => .non
  | _, _, .bl b => .bl b
  | _, _, .int i => .int i
  | _, _, .str x => .str x
  | _, _, .tup h t => .tup (e.sqt w h) (Reps.monoP e w t)
  | _, _, .lst h n t => .lst (e.keep _ _ h fun z => n (mem_busy.mpr (.inl z))).1 (e.nb h n) (Reps.monoP e w t)
  | _, _, .obj hm h l t => .obj hm (e.stay w h fun _ z => by cases z) l (Reps.monoP e w t)
  | _, _, .deal h => .deal (by obtain ⟨l, z⟩ := e.gam; rw [z]; exact List.mem_append_left _ h)
  | _, _, .scr h => .scr (h.elim (fun ⟨o, z⟩ => .inl ⟨o, e.stay w z fun _ z => by cases z⟩) .inr)
theorem Reps.monoP (e : ExtP ω H ω' H') (w : WOk ω H) : ∀ {xs : List V} {ds : List D}, Reps K mg ω H xs ds → Reps K mg ω' H' xs ds
  | _, _, .nil => .nil
  | _, _, .cons r t => .cons (Rep.monoP e w r) (Reps.monoP e w t)
end
theorem Rep.mono (e : Ext ω H ω' H') (w : WOk ω H) {v : V} {d : D} (r : Rep K mg ω H v d) : Rep K mg ω' H' v d := r.monoP e.toP w
theorem Reps.mono (e : Ext ω H ω' H') (w : WOk ω H) {xs : List V} {ds : List D} (r : Reps K mg ω H xs ds) : Reps K mg ω' H' xs ds := r.monoP e.toP w
theorem RepV.monoP (e : ExtP ω H ω' H') (w : WOk ω H) {v : V} {x : Va} (r : RepV K mg ω H v x) : RepV K mg ω' H' v x := by
  cases r with
  | dat r => exact .dat (r.monoP e w)
  | loc h =>
    refine .loc ?_
    obtain ⟨l, z⟩ := e.ads
    rw [z, List.getElem?_append_left (List.getElem?_eq_some_iff.mp h).1]
    exact h
theorem RepV.mono (e : Ext ω H ω' H') (w : WOk ω H) {v : V} {x : Va} (r : RepV K mg ω H v x) : RepV K mg ω' H' v x := r.monoP e.toP w
theorem RepVs.mono (e : Ext ω H ω' H') (w : WOk ω H) : ∀ {vs : List V} {xs : List Va}, RepVs K mg ω H vs xs → RepVs K mg ω' H' vs xs
  | _, _, .nil => .nil
  | _, _, .cons r t => .cons (r.mono e w) (RepVs.mono e w t)
theorem RepVs.length : ∀ {vs : List V} {xs : List Va}, RepVs K mg ω H vs xs → vs.length = xs.length
  | _, _, .nil => rfl
  | _, _, .cons _ t => by simp [RepVs.length t]
theorem WOk.same (w : WOk ω H) (s : Same H H') : WOk ω H' := ⟨w.nd, w.nda, fun a h => let ⟨xs, z⟩ := w.all a h; ⟨xs, s _ _ z⟩, w.sub, fun p h => let ⟨m, cs, a, b, r⟩ := w.dls p h; ⟨m, cs, s _ _ a, s _ _ b, r⟩, fun a h => let ⟨xs, z⟩ := w.out a h; ⟨xs, s _ _ z⟩⟩

/-! ### the def's slots and its own lists (whether one may still change, its things) -/
abbrev DEnv := List (Option Va)
abbrev DSto := List (Bool × List D)
variable (K) (mg)
def RepEnv (ω : Wd) (H : Hp) (σ : St) (env : DEnv) : Prop := σ.length = env.length ∧ ∀ (i : Nat) (d : Va), env[i]? = some (some d) → ∃ v, σ[i]? = some (some v) ∧ RepV K mg ω H v d
def RepSto (ω : Wd) (H : Hp) (st : DSto) : Prop := st.length = ω.ads.length ∧
  ∀ (n : Nat) (b : Bool) (ds : List D), st[n]? = some (b, ds) → ∃ a xs, ω.ads[n]? = some a ∧ H a = some (.lst xs) ∧ Reps K mg ω H xs ds ∧ (b = true → a ∈ ω.liv) ∧ (b = false → a ∉ ω.busy)
structure RepS (ω : Wd) (H : Hp) (σ : St) (env : DEnv) (st : DSto) : Prop where
  w : WOk ω H
  e : RepEnv K mg ω H σ env
  s : RepSto K mg ω H st
variable {K} {mg} {σ : St} {env : DEnv} {st : DSto}
theorem RepEnv.mono (e : Ext ω H ω' H') (w : WOk ω H) (r : RepEnv K mg ω H σ env) : RepEnv K mg ω' H' σ env := ⟨r.1, fun i d h => let ⟨v, a, b⟩ := r.2 i d h; ⟨v, a, b.mono e w⟩⟩
theorem RepSto.same (s : Same H H') (w : WOk ω H) (r : RepSto K mg ω H st) : RepSto K mg ω H' st := ⟨r.1, fun n b ds h => let ⟨a, xs, h1, h2, h3, h4⟩ := r.2 n b ds h; ⟨a, xs, h1, s _ _ h2, h3.mono (.of_same s) w, h4⟩⟩
theorem RepS.same (s : Same H H') (r : RepS K mg ω H σ env st) : RepS K mg ω H' σ env st := ⟨r.w.same s, r.e.mono (.of_same s) r.w, r.s.same s r.w⟩
theorem RepEnv.set (r : RepEnv K mg ω H σ env) {v : V} {d : Va} (h : RepV K mg ω H v d) (i : Nat) : RepEnv K mg ω H (σ.set i (some v)) (env.set i (some d)) := by
  refine ⟨by rw [List.length_set, List.length_set]; exact r.1, fun j e he => ?_⟩
  by_cases hj : i = j
  · subst hj
    by_cases hl : i < env.length
    · rw [List.getElem?_set_self hl] at he
      cases he
      exact ⟨v, List.getElem?_set_self (show i < σ.length by rw [r.1]; exact hl), h⟩
    · rw [List.getElem?_eq_none (by simpa using hl)] at he
      cases he
  · rw [List.getElem?_set_ne hj] at he
    rw [List.getElem?_set_ne hj]
    exact r.2 j e he
theorem RepEnv.unset (r : RepEnv K mg ω H σ env) (i : Nat) : RepEnv K mg ω H (σ.set i none) (env.set i none) := by
  refine ⟨by rw [List.length_set, List.length_set]; exact r.1, fun j e he => ?_⟩
  by_cases hj : i = j
  · subst hj
    by_cases hl : i < env.length
    · rw [List.getElem?_set_self hl] at he
      cases he
    · rw [List.getElem?_eq_none (by simpa using hl)] at he
      cases he
  · rw [List.getElem?_set_ne hj] at he
    rw [List.getElem?_set_ne hj]
    exact r.2 j e he

/-! ### an exception, as data -/
structure Exn where
  cn : Str
  fs : List Str
  ds : List D
variable (K) (mg)
def RepX (ω : Wd) (H : Hp) (cls : Value) (dx : Option Addr) (ex : Exn) : Prop := ∃ (C d : Addr) (xs : List V), cls = .ref C ∧ mg ex.cn = some (.ref C) ∧ dx = some d ∧ H d = some (.xd (ex.fs.zip xs)) ∧ ex.fs.length = xs.length ∧ Reps K mg ω H xs ex.ds
variable {K} {mg}
theorem RepX.mono (e : Ext ω H ω' H') (w : WOk ω H) {cls : Value} {dx : Option Addr} {ex : Exn} (r : RepX K mg ω H cls dx ex) : RepX K mg ω' H' cls dx ex := by
  obtain ⟨C, d, xs, h1, h2, h3, h4, h5, h6⟩ := r
  exact ⟨C, d, xs, h1, h2, h3, e.stay w h4 (fun _ z => by cases z), h5, h6.mono e w⟩
end

/-! ### readings over data -/
abbrev QD := D → DSto → Prop
abbrev QV := Va → DSto → Prop
abbrev XD := Exn → DSto → Prop
abbrev LE := DEnv → DSto → QV → XD → Prop
abbrev LT := DEnv → DSto → (Bool → DSto → Prop) → XD → Prop
abbrev LA := DEnv → DSto → (List Va → DSto → Prop) → XD → Prop
section
variable (K : PySem.W.Frag) (mg : Str → Option Value)
/-- what is wanted of an exception, from the data's wish -/
def upX (W : WX) (ω : Wd) (H : Hp) (σ : St) (env : DEnv) (E : XD) : Prop := ∀ ex st' ω' H' cls dx, Ext ω H ω' H' → RepS K mg ω' H' σ env st' → RepX K mg ω' H' cls dx ex → E ex st' → W cls dx σ H'
def upE (W : WX) (t : LE) : TE := fun σ H Q => ∃ ω env st Qd Ed, RepS K mg ω H σ env st ∧ t env st Qd Ed ∧
  (∀ d st' ω' H' v, Ext ω H ω' H' → RepS K mg ω' H' σ env st' → RepV K mg ω' H' v d → Qd d st' → Q v H') ∧ upX K mg W ω H σ env Ed
def upT (W : WX) (t : LT) : TT := fun σ H Q => ∃ ω env st Qd Ed, RepS K mg ω H σ env st ∧ t env st Qd Ed ∧
  (∀ b st' ω' H', Ext ω H ω' H' → RepS K mg ω' H' σ env st' → Qd b st' → Q b H') ∧ upX K mg W ω H σ env Ed
def upA (W : WX) (t : LA) : TA := fun σ H Q => ∃ ω env st Qd Ed, RepS K mg ω H σ env st ∧ t env st Qd Ed ∧
  (∀ ds st' ω' H' vs, Ext ω H ω' H' → RepS K mg ω' H' σ env st' → RepVs K mg ω' H' vs ds → Qd ds st' → Q vs H') ∧ upX K mg W ω H σ env Ed
end
theorem _root_.L2.PE.imp {X : Cx} {e : Expr} {t t' : TE} (h : PE X e t) (i : ∀ σ H Q, t' σ H Q → t σ H Q) : PE X e t' := ⟨fun pins s σ H Q I q => h.run pins s σ H Q I (i σ H Q q)⟩
theorem _root_.L2.PT.imp {X : Cx} {e : Expr} {t t' : TT} (h : PT X e t) (i : ∀ σ H Q, t' σ H Q → t σ H Q) : PT X e t' := ⟨fun pins s σ H Q I q => h.run pins s σ H Q I (i σ H Q q)⟩
theorem _root_.L2.PW.imp {X : Cx} {e : Expr} {t t' : TT} (h : PW X e t) (i : ∀ σ H Q, t' σ H Q → t σ H Q) : PW X e t' := ⟨fun wh pins s σ H Q I q => h.run wh pins s σ H Q I (i σ H Q q)⟩
theorem _root_.L2.PA.imp {X : Cx} {e : List Expr} {t t' : TA} (h : PA X e t) (i : ∀ σ H Q, t' σ H Q → t σ H Q) : PA X e t' := ⟨fun p pins s σ H Q I q => h.run p pins s σ H Q I (i σ H Q q)⟩
theorem _root_.L2.PS.imp {X : Cx} {e : Stmt} {t t' : TS} (h : PS X e t) (i : ∀ D σ H, t' D σ H → t D σ H) : PS X e t' := ⟨fun pins s σ H D I q => h.run pins s σ H D I (i D σ H q)⟩
theorem _root_.L2.PSs.imp {X : Cx} {e : List Stmt} {t t' : TS} (h : PSs X e t) (i : ∀ D σ H, t' D σ H → t D σ H) : PSs X e t' := ⟨fun pins s σ H D I q => h.run pins s σ H D I (i D σ H q)⟩
end Pd

/-! Pd: operations by data. -/
namespace Pd
open PySem L2
section
variable {K : PySem.W.Frag} {mg : Str → Option Value} {ω ω' ω'' : Wd} {H H' H'' : Hp} {σ : St} {env : DEnv} {st : DSto}

theorem same_upd {p : Addr} {o : HO} (h : H p = none) : Same H (upd H p o) := fun b u e => by rw [upd_ne (ne_of_none e h)]; exact e
mutual
theorem Rep.sameOnly (s : Same H H') : ∀ {v : V} {d : D}, Rep K mg ω H v d → Rep K mg ω H' v d
  | _, _, .non => .non
  | _, _, .bl b => .bl b
  | _, _, .int i => .int i
  | _, _, .str x => .str x
  | _, _, .tup h t => .tup (by
      rcases h with (h | ⟨o, h⟩) | h
      · exact .inl (.inl (s _ _ h))
      · exact .inl (.inr ⟨o, s _ _ h⟩)
      · exact .inr h) (Reps.sameOnly s t)
  | _, _, .lst h n t => .lst (s _ _ h) n (Reps.sameOnly s t)
  | _, _, .obj hm h l t => .obj hm (s _ _ h) l (Reps.sameOnly s t)
  | _, _, .deal h => .deal h
  | _, _, .scr h => .scr (h.elim (fun ⟨o, z⟩ => .inl ⟨o, s _ _ z⟩) .inr)
theorem Reps.sameOnly (s : Same H H') : ∀ {xs : List V} {ds : List D}, Reps K mg ω H xs ds → Reps K mg ω H' xs ds
  | _, _, .nil => .nil
  | _, _, .cons r t => .cons (Rep.sameOnly s r) (Reps.sameOnly s t)
end
theorem free_busy (w : WOk ω H) {p : Addr} (h : H p = none) : p ∉ ω.busy := fun q => by
  obtain ⟨xs, z⟩ := w.busyl q
  rw [h] at z
  cases z
theorem rep_tup_new {p : Addr} {xs : List V} {ds : List D} (w : WOk ω H) (h : H p = none) (r : Reps K mg ω H xs ds) : Rep K mg ω (upd H p (.tup xs)) (.ref p) (.tup ds) :=
  .tup (SqT.of upd_same) (r.mono (.of_same (same_upd h)) w)
theorem rep_lst_new {p : Addr} {xs : List V} {ds : List D} (w : WOk ω H) (h : H p = none) (r : Reps K mg ω H xs ds) : Rep K mg ω (upd H p (.lst xs)) (.ref p) (.lst ds) :=
  .lst upd_same (free_busy w h) (r.mono (.of_same (same_upd h)) w)

/-- the things of a list -/
def lstX (st : DSto) : Va → Option (List D)
  | .dat (.lst ds) => some ds
  | .loc n => (st[n]?).map (·.2)
  | .dat _ => none
/-- the things of a list or a tuple -/
def seqX (st : DSto) : Va → Option (List D)
  | .dat (.lst ds) => some ds
  | .dat (.tup ds) => some ds
  | .loc n => (st[n]?).map (·.2)
  | .dat _ => none
theorem lstX_rep (R : RepS K mg ω H σ env st) {v : V} {x : Va} (r : RepV K mg ω H v x) {ds : List D} (h : lstX st x = some ds) : ∃ a xs, v = .ref a ∧ H a = some (.lst xs) ∧ Reps K mg ω H xs ds := by
  cases r with
  | dat r =>
    cases r <;> simp only [lstX] at h <;> first | (cases h; done) | skip
    rename_i a xs ds' h1 h2 h3
    cases h
    exact ⟨a, xs, rfl, h1, h3⟩
  | loc e =>
    rename_i a n
    simp only [lstX] at h
    obtain ⟨⟨b, ds'⟩, h1, h2⟩ := Option.map_eq_some_iff.mp h
    obtain ⟨a', xs, q1, q2, q3, _⟩ := R.s.2 n b ds' h1
    rw [e] at q1
    cases q1
    cases h2
    exact ⟨a, xs, rfl, q2, q3⟩
theorem seqX_rep (R : RepS K mg ω H σ env st) {v : V} {x : Va} (r : RepV K mg ω H v x) {ds : List D} (h : seqX st x = some ds) : ∃ a xs, v = .ref a ∧ (SqL K H a xs ∨ SqT K H a xs) ∧ Reps K mg ω H xs ds := by
  cases r with
  | dat r =>
    cases r <;> simp only [seqX] at h <;> first | (cases h; done) | skip
    · cases h
      rename_i a xs h1 h2
      exact ⟨a, xs, rfl, .inr h1, h2⟩
    · cases h
      rename_i a xs h1 h2 h3
      exact ⟨a, xs, rfl, .inl (SqL.of h1), h3⟩
  | loc e =>
    obtain ⟨a', xs, q1, q2, q3⟩ := lstX_rep R (.loc e) (show lstX st (.loc _) = some ds from h)
    exact ⟨a', xs, q1, .inl (SqL.of q2), q3⟩

/-- a list that goes into data, out of the def, or to another def, changes no more -/
def use (x : Va) (st : DSto) (k : D → DSto → Prop) : Prop := match x with
  | .dat d => k d st
  | .loc n => ∃ b ds, st[n]? = some (b, ds) ∧ k (.lst ds) (st.set n (false, ds))
theorem use_rep (R : RepS K mg ω H σ env st) {v : V} {x : Va} (r : RepV K mg ω H v x) {k : D → DSto → Prop} (h : use x st k) :
    ∃ d st' ω', Ext ω H ω' H ∧ RepS K mg ω' H σ env st' ∧ Rep K mg ω' H v d ∧ k d st' := by
  cases r with
  | dat r => exact ⟨_, st, ω, .refl _ _, R, r, h⟩
  | loc e =>
    rename_i a n
    obtain ⟨b, ds, hs, h⟩ := h
    · obtain ⟨a', xs, q1, q2, q3, q4, q5⟩ := R.s.2 n b ds hs
      rw [e] at q1
      cases q1
      have hsub : ∀ x, x ∈ ω.liv.filter (fun x => decide (x ≠ a)) → x ∈ ω.liv := fun x hx => (List.mem_filter.mp hx).1
      have hne : ∀ x, x ∈ ω.liv.filter (fun x => decide (x ≠ a)) → x ≠ a := fun x hx => of_decide_eq_true (List.mem_filter.mp hx).2
      obtain ⟨ω', hω⟩ : ∃ ω' : Wd, ω' = { ω with liv := ω.liv.filter (fun x => decide (x ≠ a)) } := ⟨_, rfl⟩
      have hgs : ω'.gs = ω.gs := by rw [hω] <;> rfl
      have hmut : ∀ x, x ∈ ω'.mut → x ∈ ω.mut := fun x hx => by
        unfold Wd.mut at hx ⊢
        rw [hgs, hω] at hx
        rcases List.mem_append.mp hx with hx | hx
        · exact List.mem_append_left _ (hsub x hx)
        · exact List.mem_append_right _ hx
      have hbusy : ∀ x, x ∈ ω'.busy → x ∈ ω.busy := fun x hx => by
        rcases mem_busy.mp hx with hx | hx
        · exact mem_busy.mpr (.inl (hmut x hx))
        · exact mem_busy.mpr (.inr (by rw [hω] at hx; exact hx))
      have ext : Ext ω H ω' H := ⟨⟨[], by rw [hω] <;> simp⟩, ⟨[], by rw [hω] <;> simp⟩, by rw [hω], fun x o hx hn => ⟨hx, fun z => hn (hmut x z)⟩⟩
      have nba : a ∉ ω'.busy := by
        cases b with
        | false => exact fun z => q5 rfl (hbusy a z)
        | true =>
          have hl := q4 rfl
          intro z
          have nd := R.w.nd
          unfold Wd.busy Wd.mut at nd
          rw [List.append_assoc] at nd
          have nd2 := (List.nodup_append.mp nd).2.2 a hl
          unfold Wd.busy Wd.mut at z
          rw [hgs, hω, List.append_assoc] at z
          rcases List.mem_append.mp z with z | z
          · exact hne a z rfl
          · exact nd2 a z rfl
      have w' : WOk ω' H := by
        refine ⟨?_, by rw [hω]; exact R.w.nda, by rw [hω]; exact R.w.all, fun x hx => ?_, by rw [hω]; exact R.w.dls, by rw [hω]; exact R.w.out⟩
        · have nd := R.w.nd
          unfold Wd.busy Wd.mut at nd ⊢
          rw [hgs, hω]
          refine nd.sublist (List.Sublist.append (List.Sublist.append ?_ (List.Sublist.refl _)) (List.Sublist.refl _))
          exact List.filter_sublist
        · rw [hω] at hx ⊢
          exact R.w.sub x (hsub x hx)
      refine ⟨.lst ds, st.set n (false, ds), ω', ext, ⟨w', R.e.mono ext R.w, by rw [List.length_set, hω]; exact R.s.1, fun m b' es hm => ?_⟩, .lst q2 nba (q3.mono ext R.w), h⟩
      by_cases hmn : n = m
      · subst hmn
        by_cases hl : n < st.length
        · rw [List.getElem?_set_self hl] at hm
          cases hm
          refine ⟨a, xs, by rw [hω]; exact e, q2, q3.mono ext R.w, (fun z => by cases z), fun _ => nba⟩
        · rw [List.getElem?_eq_none (by simpa using hl)] at hm
          cases hm
      · rw [List.getElem?_set_ne hmn] at hm
        obtain ⟨a2, xs2, p1, p2, p3, p4, p5⟩ := R.s.2 m b' es hm
        refine ⟨a2, xs2, by rw [hω]; exact p1, p2, p3.mono ext R.w, fun z => ?_, fun z y => p5 z (hbusy a2 y)⟩
        rw [hω]
        refine List.mem_filter.mpr ⟨p4 z, decide_eq_true fun q => ?_⟩
        subst q
        exact hmn (nodup_ix' R.w.nda e p1)
where
  nodup_ix' {l : List Addr} (hN : l.Nodup) {i j : Nat} {x : Addr} (a : l[i]? = some x) (b : l[j]? = some x) : i = j := by
    obtain ⟨h1, e1⟩ := List.getElem?_eq_some_iff.mp a
    obtain ⟨h2, e2⟩ := List.getElem?_eq_some_iff.mp b
    exact (List.getElem_inj hN).mp (e1.trans e2.symm)

/-- things that go into data, from the left -/
def useAll : List Va → DSto → (List D → DSto → Prop) → Prop
  | [], st, k => k [] st
  | x :: xs, st, k => use x st fun d s1 => useAll xs s1 fun ds s2 => k (d :: ds) s2
theorem useAll_rep : ∀ {vs : List V} {xs : List Va} {ω : Wd} {st : DSto} {k : List D → DSto → Prop}, RepS K mg ω H σ env st → RepVs K mg ω H vs xs → useAll xs st k →
    ∃ ds st' ω', Ext ω H ω' H ∧ RepS K mg ω' H σ env st' ∧ Reps K mg ω' H vs ds ∧ k ds st'
  | _, _, ω, st, k, R, .nil, h => ⟨[], st, ω, .refl _ _, R, .nil, h⟩
  | _, _, ω, st, k, R, .cons r t, h => by
    obtain ⟨d, s1, ω1, e1, R1, r1, h1⟩ := use_rep R r h
    obtain ⟨ds, s2, ω2, e2, R2, r2, h2⟩ := useAll_rep R1 (t.mono e1 R.w) h1
    exact ⟨d :: ds, s2, ω2, e1.trans e2, R2, .cons (r1.mono e2 R1.w) r2, h2⟩
theorem upX.mono {W : WX} {E : XD} (h : upX K mg W ω H σ env E) (e : Ext ω H ω' H') : upX K mg W ω' H' σ env E := fun ex st' ω2 H2 cls dx e2 r x q => h ex st' ω2 H2 cls dx (e.trans e2) r x q
end

/-! ### lifting rules -/
section
variable (K : PySem.W.Frag) (mg : Str → Option Value)
/-- a rule of two values, by data: all that is tracked stands -/
def Lift2 (r : R2) (f : DSto → Va → Va → (D → Prop) → Prop) : Prop := ∀ (ω : Wd) (H : Hp) (σ : St) (env : DEnv) (st : DSto) (v u : V) (x y : Va) (Qd : D → Prop) (Q : VK),
  RepS K mg ω H σ env st → RepV K mg ω H v x → RepV K mg ω H u y → f st x y Qd → (∀ d H' w, Same H H' → Rep K mg ω H' w d → Qd d → Q w H') → r v u H Q
def Lift1 (r : V → Hp → VK → Prop) (f : DSto → Va → (D → Prop) → Prop) : Prop := ∀ (ω : Wd) (H : Hp) (σ : St) (env : DEnv) (st : DSto) (v : V) (x : Va) (Qd : D → Prop) (Q : VK),
  RepS K mg ω H σ env st → RepV K mg ω H v x → f st x Qd → (∀ d H' w, Same H H' → Rep K mg ω H' w d → Qd d → Q w H') → r v H Q
end
section
variable {X : Cx} {W : WX} {K : PySem.W.Frag} {mg : Str → Option Value}
theorem up_op {op : Operator} {a b : Expr} {ta tb : LE} {pos : Pos} {r : R2} {f : DSto → Va → Va → (D → Prop) → Prop} (ho : OpR X (binaryOp op) r) (hl : Lift2 K mg r f) (ha : PE X a (upE K mg W ta)) (hb : PE X b (upE K mg W tb)) :
    PE X (.BinOp a op b pos) (upE K mg W fun env st Q E => ta env st (fun x s1 => tb env s1 (fun y s2 => f s2 x y fun d => Q (.dat d) s2) E) E) := by
  refine (pe_op ho ha hb).imp fun σ H Q ⟨ω, env, st, Qd, Ed, R, t, hQ, hE⟩ => ?_
  refine ⟨ω, env, st, _, Ed, R, t, fun x s1 ω1 H1 v e1 R1 r1 t1 => ?_, hE⟩
  refine ⟨ω1, env, s1, _, Ed, R1, t1, fun y s2 ω2 H2 u e2 R2 r2 t2 => ?_, hE.mono e1⟩
  exact hl ω2 H2 σ env s2 v u x y _ _ R2 (r1.mono e2 R1.w) r2 t2 fun d H' w s rw q => hQ (.dat d) s2 ω2 H' w ((e1.trans e2).trans (.of_same s)) (R2.same s) (.dat rw) q
theorem up_un {op : UnaryOp} {a : Expr} {ta : LE} {pos : Pos} {r : V → Hp → VK → Prop} {f : DSto → Va → (D → Prop) → Prop} (ho : UnR X (unaryOp op) r) (hl : Lift1 K mg r f) (ha : PE X a (upE K mg W ta)) :
    PE X (.UnaryOp op a pos) (upE K mg W fun env st Q E => ta env st (fun x s1 => f s1 x fun d => Q (.dat d) s1) E) := by
  refine (pe_un ho ha).imp fun σ H Q ⟨ω, env, st, Qd, Ed, R, t, hQ, hE⟩ => ?_
  refine ⟨ω, env, st, _, Ed, R, t, fun x s1 ω1 H1 v e1 R1 r1 t1 => ?_, hE⟩
  exact hl ω1 H1 σ env s1 v x _ _ R1 r1 t1 fun d H' w s rw q => hQ (.dat d) s1 ω1 H' w (e1.trans (.of_same s)) (R1.same s) (.dat rw) q
theorem up_ix {a b : Expr} {ta tb : LE} {pos : Pos} {r : R2} {f : DSto → Va → Va → (D → Prop) → Prop} (ho : IxR X r) (hl : Lift2 K mg r f) (ha : PE X a (upE K mg W ta)) (hb : PE X b (upE K mg W tb)) (hs : PlainIx b) :
    PE X (.Subscript a b pos) (upE K mg W fun env st Q E => ta env st (fun x s1 => tb env s1 (fun y s2 => f s2 x y fun d => Q (.dat d) s2) E) E) := by
  refine (pe_ix ho ha hb hs).imp fun σ H Q ⟨ω, env, st, Qd, Ed, R, t, hQ, hE⟩ => ?_
  refine ⟨ω, env, st, _, Ed, R, t, fun x s1 ω1 H1 v e1 R1 r1 t1 => ?_, hE⟩
  refine ⟨ω1, env, s1, _, Ed, R1, t1, fun y s2 ω2 H2 u e2 R2 r2 t2 => ?_, hE.mono e1⟩
  exact hl ω2 H2 σ env s2 v u x y _ _ R2 (r1.mono e2 R1.w) r2 t2 fun d H' w s rw q => hQ (.dat d) s2 ω2 H' w ((e1.trans e2).trans (.of_same s)) (R2.same s) (.dat rw) q
theorem up_cmp {op : CmpOp} {a b : Expr} {ta tb : LE} {pos : Pos} {r : R2} {f : DSto → Va → Va → (D → Prop) → Prop} (ho : OpR X (compareOp op) r) (hl : Lift2 K mg r f) (ha : PE X a (upE K mg W ta)) (hb : PE X b (upE K mg W tb)) (hm : behindInMarks op b = false) :
    PE X (.Compare a [op] [b] pos) (upE K mg W fun env st Q E => ta env st (fun x s1 => tb env s1 (fun y s2 => f s2 x y fun d => Q (.dat d) s2) E) E) := by
  refine (pe_cmpR ho ha hb hm).imp fun σ H Q ⟨ω, env, st, Qd, Ed, R, t, hQ, hE⟩ => ?_
  refine ⟨ω, env, st, _, Ed, R, t, fun x s1 ω1 H1 v e1 R1 r1 t1 => ?_, hE⟩
  refine ⟨ω1, env, s1, _, Ed, R1, t1, fun y s2 ω2 H2 u e2 R2 r2 t2 => ?_, hE.mono e1⟩
  exact hl ω2 H2 σ env s2 v u x y _ _ R2 (r1.mono e2 R1.w) r2 t2 fun d H' w s rw q => hQ (.dat d) s2 ω2 H' w ((e1.trans e2).trans (.of_same s)) (R2.same s) (.dat rw) q
end

/-! ### numbers, texts, tuples, lists: + - * // % ** -/
def addX (st : DSto) (x y : Va) (Q : D → Prop) : Prop := match x with
  | .dat (.int i) => match y with
    | .dat (.int j) => Q (.int (i + j))
    | _ => False
  | .dat (.str a) => match y with
    | .dat (.str b) => a.length + b.length ≤ sizeLine ∧ Q (.str (a ++ b))
    | _ => False
  | .dat (.tup a) => match y with
    | .dat (.tup b) => a.length + b.length ≤ sizeLine ∧ Q (.tup (a ++ b))
    | _ => False
  | .dat (.lst a) => match lstX st y with
    | some b => a.length + b.length ≤ sizeLine ∧ Q (.lst (a ++ b))
    | none => False
  | .loc n => match lstX st (.loc n), lstX st y with
    | some a, some b => a.length + b.length ≤ sizeLine ∧ Q (.lst (a ++ b))
    | _, _ => False
  | _ => False
def rAddX (K : PySem.W.Frag) : R2 := fun x y H Q => rI0 (fun i j => .int (i + j)) x y H Q ∨ (∃ i j, x = .str i ∧ y = .str j ∧ i.length + j.length ≤ sizeLine ∧ Q (.str (i ++ j)) H) ∨ rCatA K x y H Q ∨ rCat x y H Q
theorem op_addX {X : Cx} : OpR X (binaryOp .Add) (rAddX X.K) := by
  intro pins s σ H x y v u Q I rx ry h
  rcases h with h | h | h | h
  · exact op_add pins s σ H x y v u Q I rx ry h
  · exact op_add_str pins s σ H x y v u Q I rx ry h
  · exact op_catA pins s σ H x y v u Q I rx ry h
  · exact op_cat pins s σ H x y v u Q I rx ry h
def rSubX : R2 := rI0 fun i j => .int (i - j)
def subX (st : DSto) (x y : Va) (Q : D → Prop) : Prop := match x with
  | .dat (.int i) => match y with
    | .dat (.int j) => Q (.int (i - j))
    | _ => False
  | _ => False
section
variable {K : PySem.W.Frag} {mg : Str → Option Value}
theorem lift_cat {ω : Wd} {H : Hp} {σ : St} {env : DEnv} {st : DSto} {v u : V} {x y : Va} {a b : List D} {Qd : D → Prop} {Q : VK} (R : RepS K mg ω H σ env st) (rx : RepV K mg ω H v x) (ry : RepV K mg ω H u y)
    (ha : lstX st x = some a) (hb : lstX st y = some b) (hz : a.length + b.length ≤ sizeLine) (q : Qd (.lst (a ++ b))) (hQ : ∀ d H' w, Same H H' → Rep K mg ω H' w d → Qd d → Q w H') : rCat v u H Q := by
  obtain ⟨p1, xs, rfl, h1, r1⟩ := lstX_rep R rx ha
  obtain ⟨p2, ys, rfl, h2, r2⟩ := lstX_rep R ry hb
  exact ⟨p1, p2, xs, ys, rfl, rfl, h1, h2, by rw [r1.length, r2.length]; exact hz, fun p hp => hQ _ _ _ (same_upd hp) (rep_lst_new R.w hp (r1.append r2)) q⟩
theorem lift_add : Lift2 K mg (rAddX K) addX := by
  intro ω H σ env st v u x y Qd Q R rx ry h hQ
  cases rx with
  | loc e =>
    simp only [addX] at h
    split at h
    · rename_i a b ha hb
      exact .inr (.inr (.inr (lift_cat R (.loc e) ry ha hb h.1 h.2 hQ)))
    · exact h.elim
  | dat rx =>
    cases rx with
    | int i =>
      simp only [addX] at h
      split at h
      · cases ry with | dat ry => cases ry; exact .inl ⟨_, _, rfl, rfl, hQ _ _ _ (Same.refl H) (.int _) h⟩
      · exact h.elim
    | str a =>
      simp only [addX] at h
      split at h
      · cases ry with | dat ry => cases ry; exact .inr (.inl ⟨_, _, rfl, rfl, h.1, hQ _ _ _ (Same.refl H) (.str _) h.2⟩)
      · exact h.elim
    | @tup a xs ds h1 r1 =>
      simp only [addX] at h
      split at h
      · rename_i b
        cases ry with
        | dat ry =>
          cases ry with
          | @tup p2 ys ds2 h2 r2 =>
            refine .inr (.inr (.inl ⟨a, p2, xs, ys, rfl, rfl, h1, h2, by rw [r1.length, r2.length]; exact h.1, fun e => ?_, fun e1 e2 => ?_, fun e1 e2 p hp => ?_⟩))
            · subst e
              cases r1
              exact hQ _ _ _ (Same.refl H) (.tup h2 r2) h.2
            · subst e2
              cases r2
              have q := h.2
              rw [List.append_nil] at q
              exact hQ _ _ _ (Same.refl H) (.tup h1 r1) q
            · exact hQ _ _ _ (same_upd hp) (rep_tup_new R.w hp (r1.append r2)) h.2
      · exact h.elim
    | lst h1 h2 r1 =>
      simp only [addX] at h
      split at h
      · rename_i b hb
        exact .inr (.inr (.inr (lift_cat R (.dat (.lst h1 h2 r1)) ry rfl hb h.1 h.2 hQ)))
      · exact h.elim
    | _ => exact h.elim
theorem lift_sub : Lift2 K mg rSubX subX := by
  intro ω H σ env st v u x y Qd Q R rx ry h hQ
  cases rx with
  | loc e => exact h.elim
  | dat rx =>
    cases rx with
    | int i =>
      simp only [subX] at h
      split at h
      · cases ry with | dat ry => cases ry; exact ⟨_, _, rfl, rfl, hQ _ _ _ (Same.refl H) (.int _) h⟩
      · exact h.elim
    | _ => exact h.elim
end
/-- a product: the model asks that both sizes together stay below a million bits -/
def MulOk (i j : Int) : Prop := CMulW i j
def mulX (st : DSto) (x y : Va) (Q : D → Prop) : Prop := match x with
  | .dat (.int i) => match y with
    | .dat (.int j) => MulOk i j ∧ Q (.int (i * j))
    | _ => False
  | .dat (.tup a) => match y with
    | .dat (.int k) => a ≠ [] ∧ 1 ≤ k ∧ k ≤ 1000 ∧ a.length ≤ 1000 ∧ Q (.tup (List.replicate k.toNat a).flatten)
    | _ => False
  | .dat (.lst a) => match y with
    | .dat (.int k) => -(2 ^ 63) ≤ k ∧ k < 2 ^ 63 ∧ a.length * k.toNat ≤ sizeLine ∧ Q (.lst (List.replicate k.toNat a).flatten)
    | _ => False
  | _ => False
theorem tuple_mul1 (l : Addr) (items : Array Value) (n : Nat) (dd : Option Addr) (u : Tok) (sl : Array (Option Value)) :
    Meets (Builtin.«tuple.__mul__» ⟨[.ref l, .int 1 u], []⟩) (fun _ R s => s.heap.get? l = some { cls := .type "tuple", dict := dd, data := .seq items n, slots := sl } ∧ R (.ok (.ret (Value.ref l))) s) :=
  .of_wp fun prog w A R s h => by
    obtain ⟨hp, g, d, tk, os⟩ := s
    obtain ⟨hl, h⟩ := h
    have f1 := AutoSeq1.idx_int
    wp_walk using wpAny_loadPart' hl
    exact ⟨_, rfl, h⟩
def rRep1 (K : PySem.W.Frag) : R2 := fun x y H Q => ∃ l xs, x = .ref l ∧ y = .int 1 ∧ SqT K H l xs ∧ Q (.ref l) H
theorem op_rep1 {X : Cx} : OpR X (binaryOp .Mult) (rRep1 X.K) := by
  intro pins s σ H x y v u Q I rx ry h
  obtain ⟨l, xs, rfl, rfl, hT, q⟩ := h
  cases rx
  obtain ⟨t, rfl⟩ := ry
  obtain ⟨its, r, ht, hs⟩ := I.tuple hT
  obtain ⟨⟨cls, dd, data, sl⟩, ho, hc, n, hd⟩ := id ht
  simp only at hc hd
  subst hc hd
  refine wpAny_binaryOp_repeat_ref (T := "tuple") (U := "int") (by decide) ⟨_, ho, rfl⟩ (fun s' => PySem.typeIs_int s' 1 t) noFill_tuple_mul F.fills_int_mul F.slot_int_rmul repeat_tuple F.slot_int_index.lookup
    (call_meets F.slot_int_rmul (PySem.typeIs_int s 1 t) F.entry_int_rmul (F.args_int_rmul_2 _ _) (int_rmul_tuple 1 t l its.toArray n dd sl)
      ⟨ho, rfl, ⟨_, ho, rfl⟩, call_meets F.slot_tuple_mul ⟨_, ho, rfl⟩ F.entry_tuple_mul (F.args_tuple_mul_2 _ _) (tuple_mul1 l its.toArray n dd t sl) ⟨ho, ?_⟩⟩)
  exact ⟨.ref l, H, I, rfl, q⟩

def rMulX (K : PySem.W.Frag) : R2 := fun x y H Q => rI CMulW (fun i j => .int (i * j)) x y H Q ∨ rRepT K x y H Q ∨ rRep1 K x y H Q ∨ rRep x y H Q
theorem op_mulX {X : Cx} : OpR X (binaryOp .Mult) (rMulX X.K) := by
  intro pins s σ H x y v u Q I rx ry h
  rcases h with h | h | h | h
  · exact op_mulW pins s σ H x y v u Q I rx ry h
  · exact op_repT pins s σ H x y v u Q I rx ry h
  · exact op_rep1 pins s σ H x y v u Q I rx ry h
  · exact op_rep pins s σ H x y v u Q I rx ry h
section
variable {K : PySem.W.Frag} {mg : Str → Option Value} {ω : Wd} {H : Hp}
theorem Reps.rep {xs : List V} {ds : List D} (r : Reps K mg ω H xs ds) : ∀ n : Nat, Reps K mg ω H (List.replicate n xs).flatten (List.replicate n ds).flatten
  | 0 => .nil
  | n + 1 => by
    rw [List.replicate_succ, List.replicate_succ, List.flatten_cons, List.flatten_cons]
    exact r.append (Reps.rep r n)
theorem lift_mul : Lift2 K mg (rMulX K) mulX := by
  intro ω H σ env st v u x y Qd Q R rx ry h hQ
  cases rx with
  | loc e => exact h.elim
  | dat rx =>
    cases rx with
    | int i =>
      simp only [mulX] at h
      split at h
      · cases ry with | dat ry => cases ry; exact .inl ⟨_, _, rfl, rfl, h.1, hQ _ _ _ (Same.refl H) (.int _) h.2⟩
      · exact h.elim
    | @tup a xs ds h1 r1 =>
      simp only [mulX] at h
      split at h
      · rename_i k
        cases ry with
        | dat ry =>
          cases ry with
          | int _ =>
            obtain ⟨n0, k1, k2, hz, q⟩ := h
            by_cases hk : k = 1
            · subst hk
              have e : (List.replicate (Int.toNat 1) ds).flatten = ds := by simp
              rw [e] at q
              exact .inr (.inr (.inl ⟨a, xs, rfl, rfl, h1, hQ _ _ _ (Same.refl H) (.tup h1 r1) q⟩))
            · refine .inr (.inl ⟨a, k, xs, rfl, rfl, h1, fun e => ?_, by omega, k2, by rw [r1.length]; exact hz, fun p hp => hQ _ _ _ (same_upd hp) (rep_tup_new R.w hp (r1.rep _)) q⟩)
              subst e
              cases r1
              exact n0 rfl
      · exact h.elim
    | @lst a xs ds h1 h2 r1 =>
      simp only [mulX] at h
      split at h
      · rename_i k
        cases ry with
        | dat ry =>
          cases ry with
          | int _ =>
            obtain ⟨k1, k2, hz, q⟩ := h
            exact .inr (.inr (.inr ⟨a, k, xs, rfl, rfl, h1, k1, k2, by rw [r1.length]; exact hz, fun p hp => hQ _ _ _ (same_upd hp) (rep_lst_new R.w hp (r1.rep _)) q⟩))
      · exact h.elim
    | _ => exact h.elim
end
/-- a divisor: not 0, below some thousand bits -/
def DivOk (j : Int) : Prop := j ≠ 0 ∧ j.natAbs.log2 < 9000
theorem op_fdivX {X : Cx} : OpR X (binaryOp .FloorDiv) (rI (fun _ j => DivOk j) fun i j => .int (i.fdiv j)) := opI fun i j _ _ _ _ _ hc q =>
  PyProof.Rows.floordiv_int hc.1 q (.inl (PyProof.noPylong_of_log2 hc.2))
/-- two ints, under a condition, to a thing -/
def intX (C : Int → Int → Prop) (g : Int → Int → D) (st : DSto) (x y : Va) (Q : D → Prop) : Prop := match x with
  | .dat (.int i) => match y with
    | .dat (.int j) => C i j ∧ Q (g i j)
    | _ => False
  | _ => False
theorem lift_int {K : PySem.W.Frag} {mg : Str → Option Value} {C : Int → Int → Prop} {g : Int → Int → V} {g' : Int → Int → D} (hg : ∀ ω H i j, Rep K mg ω H (g i j) (g' i j)) : Lift2 K mg (rI C g) (intX C g') := by
  intro ω H σ env st v u x y Qd Q R rx ry h hQ
  cases rx with
  | loc e => exact h.elim
  | dat rx =>
    cases rx with
    | int i =>
      simp only [intX] at h
      split at h
      · cases ry with | dat ry => cases ry; exact ⟨_, _, rfl, rfl, h.1, hQ _ _ _ (Same.refl H) (hg _ _ _ _) h.2⟩
      · exact h.elim
    | _ => exact h.elim
def binX (op : Operator) (st : DSto) (x y : Va) (Q : D → Prop) : Prop := match op with
  | .Add => addX st x y Q
  | .Sub => subX st x y Q
  | .Mult => mulX st x y Q
  | .FloorDiv => intX (fun _ j => DivOk j) (fun i j => .int (i.fdiv j)) st x y Q
  | .Mod => intX (fun _ j => j ≠ 0) (fun i j => .int (i.fmod j)) st x y Q
  | .Pow => intX CPow (fun i j => .int (i ^ j.toNat)) st x y Q
  | _ => False
theorem op_never {X : Cx} {f : Value → Value → Sem Value} : OpR X f (fun _ _ _ _ => False) := fun _ _ _ _ _ _ _ _ _ _ _ _ h => h.elim
theorem up_bin {X : Cx} {W : WX} {mg : Str → Option Value} (op : Operator) {a b : Expr} {ta tb : LE} {pos : Pos} (ha : PE X a (upE X.K mg W ta)) (hb : PE X b (upE X.K mg W tb)) :
    PE X (.BinOp a op b pos) (upE X.K mg W fun env st Q E => ta env st (fun x s1 => tb env s1 (fun y s2 => binX op s2 x y fun d => Q (.dat d) s2) E) E) := by
  cases op with
  | Add => exact up_op op_addX lift_add ha hb
  | Sub => exact up_op (r := rSubX) op_sub lift_sub ha hb
  | Mult => exact up_op op_mulX lift_mul ha hb
  | FloorDiv => exact up_op op_fdivX (lift_int fun _ _ _ _ => .int _) ha hb
  | Mod => exact up_op op_modN (lift_int fun _ _ _ _ => .int _) ha hb
  | Pow => exact up_op op_pow (lift_int fun _ _ _ _ => .int _) ha hb
  | _ => exact up_op (r := fun _ _ _ _ => False) op_never (fun _ _ _ _ _ _ _ _ _ _ _ _ _ _ h _ => h.elim) ha hb
def negX (st : DSto) (x : Va) (Q : D → Prop) : Prop := match x with
  | .dat (.int i) => Q (.int (-i))
  | _ => False
theorem lift_neg {K : PySem.W.Frag} {mg : Str → Option Value} : Lift1 K mg (rU fun i => .int (-i)) negX := by
  intro ω H σ env st v x Qd Q R rx h hQ
  cases rx with
  | loc e => exact h.elim
  | dat rx =>
    cases rx with
    | int i => exact ⟨_, rfl, hQ _ _ _ (Same.refl H) (.int _) h⟩
    | _ => exact h.elim
end Pd

/-! Pd: comparisons by data. -/
namespace Pd
open PySem L2

/-! ### equality -/
mutual
def D.py : D → PyData
  | .non => .none
  | .bl b => .bool b
  | .int i => .int i
  | .str x => .str x
  | .tup ds => .tuple (D.pys ds)
  | .lst ds => .list (D.pys ds)
  | .obj _ _ _ => .dict []
  | .deal => .dict []
  | .scr _ => .dict []
def D.pys : List D → List PyData
  | [] => []
  | d :: ds => d.py :: D.pys ds
end
mutual
/-- plain data, nested at most so deep -/
def D.ok : Nat → D → Bool
  | _, .non => true
  | _, .bl _ => true
  | _, .int _ => true
  | _, .str x => PyData.strOk x
  | 0, _ => false
  | n + 1, .tup ds => D.oks n ds
  | n + 1, .lst ds => D.oks n ds
  | _, _ => false
def D.oks : Nat → List D → Bool
  | _, [] => true
  | n, d :: ds => D.ok n d && D.oks n ds
end
mutual
def eqvD : D → D → Bool
  | .non, y => match y with | .non => true | _ => false
  | .bl a, y => match y with | .bl b => a == b | .int j => (if a then 1 else 0) == j | _ => false
  | .int i, y => match y with | .int j => i == j | .bl b => i == (if b then 1 else 0) | _ => false
  | .str a, y => match y with | .str b => a == b | _ => false
  | .tup xs, y => match y with | .tup ys => eqvDs xs ys | _ => false
  | .lst xs, y => match y with | .lst ys => eqvDs xs ys | _ => false
  | .obj _ _ _, _ => false
  | .deal, _ => false
  | .scr _, _ => false
def eqvDs : List D → List D → Bool
  | [], ys => match ys with | [] => true | _ :: _ => false
  | x :: xs, ys => match ys with | y :: ys => eqvD x y && eqvDs xs ys | [] => false
end
mutual
theorem eqv_py : ∀ (x y : D), PyData.eqv x.py y.py = eqvD x y
  | .non, y => by cases y <;> simp only [D.py, PyData.eqv, eqvD]
  | .bl a, y => by cases y <;> simp only [D.py, PyData.eqv, eqvD]
  | .int a, y => by cases y <;> simp only [D.py, PyData.eqv, eqvD]
  | .str a, y => by cases y <;> simp only [D.py, PyData.eqv, eqvD]
  | .tup xs, y => by
    cases y <;> simp only [D.py, PyData.eqv, eqvD]
    exact eqv_pys xs _
  | .lst xs, y => by
    cases y <;> simp only [D.py, PyData.eqv, eqvD]
    exact eqv_pys xs _
  | .obj _ _ _, y => by cases y <;> simp only [D.py, PyData.eqv, eqvD]
  | .deal, y => by cases y <;> simp only [D.py, PyData.eqv, eqvD]
  | .scr _, y => by cases y <;> simp only [D.py, PyData.eqv, eqvD]
theorem eqv_pys : ∀ (xs ys : List D), PyData.eqvAll (D.pys xs) (D.pys ys) = eqvDs xs ys
  | [], [] => by simp only [D.pys, PyData.eqvAll, eqvDs]
  | [], _ :: _ => by simp only [D.pys, PyData.eqvAll, eqvDs]
  | _ :: _, [] => by simp only [D.pys, PyData.eqvAll, eqvDs]
  | x :: xs, y :: ys => by
    simp only [D.pys, PyData.eqvAll, eqvDs]
    rw [eqv_py x y, eqv_pys xs ys]
end
mutual
theorem ok_lay : ∀ (n : Nat) (d : D), D.ok n d = true → d.py.canLay0 = true ∧ d.py.depth ≤ n
  | _, .non, _ => ⟨rfl, Nat.zero_le _⟩
  | _, .bl _, _ => ⟨rfl, Nat.zero_le _⟩
  | _, .int _, _ => ⟨rfl, Nat.zero_le _⟩
  | _, .str _, h => ⟨by simpa [D.ok, D.py, PyData.canLay0] using h, Nat.zero_le _⟩
  | 0, .tup _, h => by simp [D.ok] at h
  | 0, .lst _, h => by simp [D.ok] at h
  | n + 1, .tup ds, h => by
    have q := oks_lay n ds (by simpa [D.ok] using h)
    simp only [D.py, PyData.canLay0, PyData.depth]
    exact ⟨q.1, Nat.succ_le_succ q.2⟩
  | n + 1, .lst ds, h => by
    have q := oks_lay n ds (by simpa [D.ok] using h)
    simp only [D.py, PyData.canLay0, PyData.depth]
    exact ⟨q.1, Nat.succ_le_succ q.2⟩
  | 0, .obj _ _ _, h => by simp [D.ok] at h
  | 0, .deal, h => by simp [D.ok] at h
  | 0, .scr _, h => by simp [D.ok] at h
  | n + 1, .obj _ _ _, h => by simp [D.ok] at h
  | n + 1, .deal, h => by simp [D.ok] at h
  | n + 1, .scr _, h => by simp [D.ok] at h
theorem oks_lay : ∀ (n : Nat) (ds : List D), D.oks n ds = true → PyData.canLayAll0 (D.pys ds) = true ∧ PyData.depthAll (D.pys ds) ≤ n
  | _, [], _ => ⟨rfl, Nat.zero_le _⟩
  | n, d :: ds, h => by
    have h' : D.ok n d = true ∧ D.oks n ds = true := by simpa [D.oks] using h
    have q1 := ok_lay n d h'.1
    have q2 := oks_lay n ds h'.2
    simp only [D.pys, PyData.canLayAll0, PyData.depthAll]
    exact ⟨by rw [q1.1, q2.1] <;> rfl, Nat.max_le.mpr ⟨q1.2, q2.2⟩⟩
end
theorem ok_shaped {d : D} (h : D.ok 64 d = true) : SeqAt.shaped d.py = true := by
  have q := ok_lay 64 d h
  unfold SeqAt.shaped
  rw [q.1, decide_eq_true q.2] <;> rfl
section
variable {K : PySem.W.Frag} {mg : Str → Option Value} {ω : Wd} {H : Hp}
mutual
theorem rep_dp : ∀ {n : Nat} {v : V} {d : D}, Rep K mg ω H v d → D.ok n d = true → Dp K H v d.py
  | _, _, _, .non, _ => .non
  | _, _, _, .bl b, _ => .bl b
  | _, _, _, .int i, _ => .int i
  | _, _, _, .str x, _ => .str x
  | 0, _, _, .tup _ _, h => by simp [D.ok] at h
  | n + 1, _, _, .tup h1 h2, h => .tup h1 (reps_dp (n := n) h2 (by simpa [D.ok] using h))
  | 0, _, _, .lst _ _ _, h => by simp [D.ok] at h
  | n + 1, _, _, .lst h1 _ h2, h => .lst (SqL.of h1) (reps_dp (n := n) h2 (by simpa [D.ok] using h))
  | 0, _, _, .obj _ _ _ _, h => by simp [D.ok] at h
  | n + 1, _, _, .obj _ _ _ _, h => by simp [D.ok] at h
  | 0, _, _, .deal _, h => by simp [D.ok] at h
  | n + 1, _, _, .deal _, h => by simp [D.ok] at h
  | 0, _, _, .scr _, h => by simp [D.ok] at h
  | n + 1, _, _, .scr _, h => by simp [D.ok] at h
theorem reps_dp : ∀ {n : Nat} {xs : List V} {ds : List D}, Reps K mg ω H xs ds → D.oks n ds = true → DpAll K H xs (D.pys ds)
  | _, _, _, .nil, _ => .nil
  | n, _, _, .cons r t, h => by
    have h' := (Bool.and_eq_true_iff.mp (show (D.ok n _ && D.oks n _) = true by simpa [D.oks] using h))
    exact .cons (rep_dp r h'.1) (reps_dp t h'.2)
end
end
/-- a slot's value seen as data -/
def datX (st : DSto) : Va → Option D
  | .dat d => some d
  | .loc n => (st[n]?).map fun p => .lst p.2
section
variable {K : PySem.W.Frag} {mg : Str → Option Value} {ω : Wd} {H : Hp} {σ : St} {env : DEnv} {st : DSto}
theorem datX_dp (R : RepS K mg ω H σ env st) {v : V} {x : Va} (r : RepV K mg ω H v x) {d : D} (h : datX st x = some d) (ho : D.ok 64 d = true) : Dp K H v d.py := by
  cases r with
  | dat r =>
    cases h
    exact rep_dp r ho
  | loc e =>
    rename_i a n
    obtain ⟨⟨b, ds⟩, h1, h2⟩ := Option.map_eq_some_iff.mp (show (st[n]?).map (fun p => D.lst p.2) = some d from h)
    cases h2
    obtain ⟨a', xs, q1, q2, q3⟩ := lstX_rep R (.loc e) (show lstX st (.loc n) = some ds by simp only [lstX]; rw [h1]; rfl)
    cases q1
    exact .lst (SqL.of q2) (reps_dp (n := 63) q3 (by simpa [D.ok] using ho))
end
def eqX (neg : Bool) (st : DSto) (x y : Va) (Q : D → Prop) : Prop := match datX st x, datX st y with
  | some a, some b => (D.ok 64 a && D.ok 64 b) = true ∧ Q (.bl (if neg then !(eqvD a b) else eqvD a b))
  | _, _ => False
theorem lift_eq {K : PySem.W.Frag} {mg : Str → Option Value} : Lift2 K mg (rEqD K) (eqX false) := by
  intro ω H σ env st v u x y Qd Q R rx ry h hQ
  unfold eqX at h
  split at h
  · rename_i a b ha hb
    obtain ⟨h1, h2⟩ := h
    obtain ⟨oa, ob⟩ := Bool.and_eq_true_iff.mp h1
    exact ⟨a.py, b.py, datX_dp R rx ha oa, datX_dp R ry hb ob, ok_shaped oa, ok_shaped ob, by rw [eqv_py]; exact hQ _ _ _ (Same.refl H) (.bl _) h2⟩
  · exact h.elim
theorem lift_ne {K : PySem.W.Frag} {mg : Str → Option Value} : Lift2 K mg (rNeD K) (eqX true) := by
  intro ω H σ env st v u x y Qd Q R rx ry h hQ
  unfold eqX at h
  split at h
  · rename_i a b ha hb
    obtain ⟨h1, h2⟩ := h
    obtain ⟨oa, ob⟩ := Bool.and_eq_true_iff.mp h1
    exact ⟨a.py, b.py, datX_dp R rx ha oa, datX_dp R ry hb ob, ok_shaped oa, ok_shaped ob, by rw [eqv_py]; exact hQ _ _ _ (Same.refl H) (.bl _) h2⟩
  · exact h.elim

/-! ### order of ints, of texts -/
def cmpI (p : Int → Int → Bool) (st : DSto) (x y : Va) (Q : D → Prop) : Prop := match x with
  | .dat (.int i) => match y with
    | .dat (.int j) => Q (.bl (p i j))
    | _ => False
  | _ => False
theorem lift_cmpI {K : PySem.W.Frag} {mg : Str → Option Value} {p : Int → Int → Bool} : Lift2 K mg (rI0 fun i j => .bl (p i j)) (cmpI p) := by
  intro ω H σ env st v u x y Qd Q R rx ry h hQ
  cases rx with
  | loc e => exact h.elim
  | dat rx =>
    cases rx with
    | int i =>
      simp only [cmpI] at h
      split at h
      · cases ry with | dat ry => cases ry; exact ⟨_, _, rfl, rfl, hQ _ _ _ (Same.refl H) (.bl _) h⟩
      · exact h.elim
    | _ => exact h.elim

/-! ### is -/
def rIsC (neg : Bool) : R2 := fun x y H Q => (y = .non ∨ ∃ b, y = .bl b) ∧ (∀ z, x ≠ .byt z) ∧ (∀ z, x ≠ .flt z) ∧ (∀ z, x ≠ .ty z) ∧ Q (.bl (if neg then !decide (x = y) else decide (x = y))) H
theorem op_isC {X : Cx} : OpR X (compareOp .Is) (rIsC false) := by
  intro pins s σ H x y v u Q I rx ry h
  obtain ⟨hy, n1, n2, n3, q⟩ := h
  by_cases e : x = y
  · subst e
    rcases hy with rfl | ⟨b, rfl⟩ <;> (cases rx; cases ry; exact wpAny_is_self rfl ⟨.bl true, H, I, rfl, by simpa using q⟩)
  · rw [if_neg Bool.false_ne_true, decide_eq_false e] at q
    have fin : ∀ w : World, EP X pins σ Q (.bool false) s := fun _ => ⟨.bl false, H, I, rfl, q⟩
    rcases hy with rfl | ⟨b, rfl⟩
    · cases (show u = Value.none from ry)
      cases x with
      | non => exact absurd rfl e
      | bl b => cases (show v = Value.bool b from rx); exact wpAny_is_other rfl (by simp) (fin X.w)
      | int i => obtain ⟨t, rfl⟩ := rx; exact wpAny_is_other rfl (by simp) (fin X.w)
      | str i => obtain ⟨t, rfl⟩ := rx; exact wpAny_is_other rfl (by simp) (fin X.w)
      | ref a => cases (show v = Value.ref a from rx); exact wpAny_is_other rfl (by simp) (fin X.w)
      | byt z => exact absurd rfl (n1 z)
      | flt z => exact absurd rfl (n2 z)
      | ty z => exact absurd rfl (n3 z)
    · cases (show u = Value.bool b from ry)
      cases x with
      | non => cases (show v = Value.none from rx); exact wpAny_is_other rfl (by simp) (fin X.w)
      | bl c =>
        cases (show v = Value.bool c from rx)
        exact wpAny_is_other rfl (fun z => e (by rw [Value.bool.inj z])) (fin X.w)
      | int i => obtain ⟨t, rfl⟩ := rx; exact wpAny_is_other rfl (by simp) (fin X.w)
      | str i => obtain ⟨t, rfl⟩ := rx; exact wpAny_is_other rfl (by simp) (fin X.w)
      | ref a => cases (show v = Value.ref a from rx); exact wpAny_is_other rfl (by simp) (fin X.w)
      | byt z => exact absurd rfl (n1 z)
      | flt z => exact absurd rfl (n2 z)
      | ty z => exact absurd rfl (n3 z)
theorem op_isNotC {X : Cx} : OpR X (compareOp .IsNot) (rIsC true) := by
  intro pins s σ H x y v u Q I rx ry h
  obtain ⟨hy, n1, n2, n3, q⟩ := h
  by_cases e : x = y
  · subst e
    rcases hy with rfl | ⟨b, rfl⟩ <;> (cases rx; cases ry; exact wpAny_isNot_self rfl ⟨.bl false, H, I, rfl, by simpa using q⟩)
  · rw [if_pos rfl, decide_eq_false e] at q
    have fin : ∀ w : World, EP X pins σ Q (.bool true) s := fun _ => ⟨.bl true, H, I, rfl, q⟩
    rcases hy with rfl | ⟨b, rfl⟩
    · cases (show u = Value.none from ry)
      cases x with
      | non => exact absurd rfl e
      | bl b => cases (show v = Value.bool b from rx); exact wpAny_isNot_other rfl (by simp) (fin X.w)
      | int i => obtain ⟨t, rfl⟩ := rx; exact wpAny_isNot_other rfl (by simp) (fin X.w)
      | str i => obtain ⟨t, rfl⟩ := rx; exact wpAny_isNot_other rfl (by simp) (fin X.w)
      | ref a => cases (show v = Value.ref a from rx); exact wpAny_isNot_other rfl (by simp) (fin X.w)
      | byt z => exact absurd rfl (n1 z)
      | flt z => exact absurd rfl (n2 z)
      | ty z => exact absurd rfl (n3 z)
    · cases (show u = Value.bool b from ry)
      cases x with
      | non => cases (show v = Value.none from rx); exact wpAny_isNot_other rfl (by simp) (fin X.w)
      | bl c =>
        cases (show v = Value.bool c from rx)
        exact wpAny_isNot_other rfl (fun z => e (by rw [Value.bool.inj z])) (fin X.w)
      | int i => obtain ⟨t, rfl⟩ := rx; exact wpAny_isNot_other rfl (by simp) (fin X.w)
      | str i => obtain ⟨t, rfl⟩ := rx; exact wpAny_isNot_other rfl (by simp) (fin X.w)
      | ref a => cases (show v = Value.ref a from rx); exact wpAny_isNot_other rfl (by simp) (fin X.w)
      | byt z => exact absurd rfl (n1 z)
      | flt z => exact absurd rfl (n2 z)
      | ty z => exact absurd rfl (n3 z)
/-- x is None, x is True, x is False -/
def isB : D → D → Bool
  | .non, .non => true
  | .bl a, .bl b => a == b
  | _, _ => false
def isX (neg : Bool) (st : DSto) (x y : Va) (Q : D → Prop) : Prop := match y with
  | .dat .non => match x with
    | .dat d => Q (.bl (if neg then !(isB d .non) else isB d .non))
    | .loc _ => Q (.bl neg)
  | .dat (.bl b) => match x with
    | .dat d => Q (.bl (if neg then !(isB d (.bl b)) else isB d (.bl b)))
    | .loc _ => Q (.bl neg)
  | _ => False
theorem rep_v {K : PySem.W.Frag} {mg : Str → Option Value} {ω : Wd} {H : Hp} {v : V} {x : Va} (r : RepV K mg ω H v x) : (∀ z, v ≠ .byt z) ∧ (∀ z, v ≠ .flt z) ∧ (∀ z, v ≠ .ty z) := by
  cases r with
  | dat r => cases r <;> exact ⟨fun z h => (nomatch h), fun z h => (nomatch h), fun z h => (nomatch h)⟩
  | loc e => exact ⟨fun z h => (nomatch h), fun z h => (nomatch h), fun z h => (nomatch h)⟩
theorem lift_is {K : PySem.W.Frag} {mg : Str → Option Value} (neg : Bool) : Lift2 K mg (rIsC neg) (isX neg) := by
  intro ω H σ env st v u x y Qd Q R rx ry h hQ
  obtain ⟨n1, n2, n3⟩ := rep_v rx
  unfold isX at h
  have fin : ∀ b : Bool, Qd (.bl b) → Q (.bl b) H := fun b q => hQ _ _ _ (Same.refl H) (.bl b) q
  split at h
  · cases ry with
    | dat ry =>
      cases ry
      refine ⟨.inl rfl, n1, n2, n3, ?_⟩
      split at h
      · cases rx with
        | dat rx => cases rx <;> exact fin _ (by simpa [isB] using h)
      · cases rx with
        | loc e => exact fin _ (by cases neg <;> simpa using h)
  · cases ry with
    | dat ry =>
      cases ry
      refine ⟨.inr ⟨_, rfl⟩, n1, n2, n3, ?_⟩
      split at h
      · cases rx with
        | dat rx =>
          cases rx
          case bl =>
            have e : ∀ p q : Bool, (p == q) = decide (p = q) := by decide
            exact fin _ (by simpa [isB, e] using h)
          all_goals exact fin _ (by simpa [isB] using h)
      · cases rx with
        | loc e => exact fin _ (by cases neg <;> simpa using h)
  · exact h.elim
end Pd

/-! Pd: membership, places, slices, lengths by data. -/
namespace Pd
open PySem L2

/-! ### in -/
def flatD : D → Bool
  | .non => true | .bl _ => true | .int _ => true | .str _ => true | _ => false
section
variable {K : PySem.W.Frag} {mg : Str → Option Value} {ω : Wd} {H : Hp}
theorem flat_rep {v : V} {d : D} (r : Rep K mg ω H v d) (f : flatD d = true) : flatV v = true := by
  cases r <;> first | rfl | (exact absurd f Bool.false_ne_true)
theorem flats_rep : ∀ {xs : List V} {ds : List D}, Reps K mg ω H xs ds → ds.all flatD = true → xs.all flatV = true
  | _, _, .nil, _ => rfl
  | _, _, .cons r t, f => by
    rw [List.all_cons, Bool.and_eq_true] at f
    rw [List.all_cons, flat_rep r f.1, flats_rep t f.2] <;> rfl
theorem eqV_rep {v u : V} {d e : D} (r : Rep K mg ω H v d) (s : Rep K mg ω H u e) (f : flatD d = true) (g : flatD e = true) : eqV v u = eqvD d e := by
  cases r <;> first | (exact absurd f Bool.false_ne_true) | skip
  all_goals (cases s <;> first | (exact absurd g Bool.false_ne_true) | (simp [eqV, eqvD]; done) | rfl)
theorem inV_rep {u : V} {e : D} (s : Rep K mg ω H u e) (g : flatD e = true) : ∀ {xs : List V} {ds : List D}, Reps K mg ω H xs ds → ds.all flatD = true → inV u xs = ds.any fun z => eqvD z e
  | _, _, .nil, _ => rfl
  | _, _, .cons r t, f => by
    rw [List.all_cons, Bool.and_eq_true] at f
    have ih := inV_rep s g t f.2
    unfold inV at ih ⊢
    rw [List.any_cons, List.any_cons, eqV_rep r s f.1 g, ih]
end
def inSeqX (neg : Bool) (st : DSto) (x y : Va) (Q : D → Prop) : Prop := match x with
  | .dat d => match seqX st y with
    | some ds => (flatD d = true ∧ ds.all flatD = true ∨ D.ok 64 d = true ∧ D.oks 63 ds = true ∧ (lstX st y).isSome = true) ∧ Q (.bl (if neg then !(ds.any fun z => eqvD z d) else ds.any fun z => eqvD z d))
    | none => False
  | _ => False
/-- x in y: y a text and x one sign; flat things in a list or a tuple; any plain thing in a list -/
def inX (neg : Bool) (st : DSto) (x y : Va) (Q : D → Prop) : Prop := match y with
  | .dat (.str z) => match x with
    | .dat (.str w) => ∃ c, w = ⟨#[c]⟩ ∧ Q (.bl (if neg then !decide (c ∈ z.cps.toList) else decide (c ∈ z.cps.toList)))
    | _ => False
  | y => inSeqX neg st x y Q
def rInX (K : PySem.W.Frag) (neg : Bool) : R2 := fun x y H Q => (∃ (c : Nat) (z : Str), x = .str ⟨#[c]⟩ ∧ y = .str z ∧ Q (.bl (if neg then !decide (c ∈ z.cps.toList) else decide (c ∈ z.cps.toList))) H) ∨ rIn K neg x y H Q ∨
  ∃ d ds, Dp K H x d ∧ Dp K H y (.list ds) ∧ SeqAt.shaped d = true ∧ SeqAt.shaped (.list ds) = true ∧ Q (.bl (if neg then !(ds.any fun z => PyData.eqv z d) else ds.any fun z => PyData.eqv z d)) H
theorem op_inX {X : Cx} (hu : X.A.units + 65 < cLine) : OpR X (compareOp .In) (rInX X.K false) := by
  intro pins s σ H x y v u Q I rx ry h
  rcases h with h | h | h
  · exact op_in_sign pins s σ H x y v u Q I rx ry h
  · exact op_in_seq pins s σ H x y v u Q I rx ry h
  · exact op_inD hu pins s σ H x y v u Q I rx ry h
theorem op_notInX {X : Cx} (hu : X.A.units + 65 < cLine) : OpR X (compareOp .NotIn) (rInX X.K true) := by
  intro pins s σ H x y v u Q I rx ry h
  rcases h with h | h | h
  · exact op_notIn_sign pins s σ H x y v u Q I rx ry h
  · exact op_notIn_seq pins s σ H x y v u Q I rx ry h
  · exact op_notInD hu pins s σ H x y v u Q I rx ry h
theorem any_pys (d : D) : ∀ ds : List D, (D.pys ds).any (fun z => PyData.eqv z d.py) = ds.any fun z => eqvD z d
  | [] => rfl
  | x :: xs => by
    simp only [D.pys, List.any_cons]
    rw [eqv_py, any_pys d xs]
theorem lift_inseq {K : PySem.W.Frag} {mg : Str → Option Value} {neg : Bool} {ω : Wd} {H : Hp} {σ : St} {env : DEnv} {st : DSto} {v u : V} {x y : Va} {Qd : D → Prop} {Q : VK} (R : RepS K mg ω H σ env st) (rx : RepV K mg ω H v x) (ry : RepV K mg ω H u y)
    (h : inSeqX neg st x y Qd) (hQ : ∀ d H' w, Same H H' → Rep K mg ω H' w d → Qd d → Q w H') : rInX K neg v u H Q := by
  cases rx with
  | loc e => exact h.elim
  | @dat _ d rx =>
    simp only [inSeqX] at h
    split at h
    · rename_i ds hds
      rcases h with ⟨⟨f1, f2⟩ | ⟨f1, f2, f3⟩, q⟩
      · obtain ⟨a, xs, rfl, hs, rs⟩ := seqX_rep R ry hds
        refine .inr (.inl ⟨a, xs, rfl, hs, flat_rep rx f1, flats_rep rs f2, ?_⟩)
        rw [inV_rep rx f1 rs f2]
        exact hQ _ _ _ (Same.refl H) (.bl _) q
      · obtain ⟨es, he⟩ := Option.isSome_iff_exists.mp f3
        have e2 : es = ds := by
          cases y with
          | loc n => exact Option.some.inj (he.symm.trans hds)
          | dat y => cases y <;> simp only [lstX, seqX] at he hds <;> first | (cases he; done) | exact Option.some.inj (he.symm.trans hds)
        subst e2
        obtain ⟨a, xs, rfl, h1, rs⟩ := lstX_rep R ry he
        refine .inr (.inr ⟨d.py, D.pys es, rep_dp rx f1, .lst (SqL.of h1) (reps_dp rs f2), ok_shaped f1, ?_, ?_⟩)
        · exact ok_shaped (d := .lst es) (by simpa [D.ok] using f2)
        · rw [any_pys]
          exact hQ _ _ _ (Same.refl H) (.bl _) q
    · exact h.elim
theorem lift_in {K : PySem.W.Frag} {mg : Str → Option Value} (neg : Bool) : Lift2 K mg (rInX K neg) (inX neg) := by
  intro ω H σ env st v u x y Qd Q R rx ry h hQ
  unfold inX at h
  split at h
  · rename_i z
    cases ry with
    | dat ry =>
      cases ry
      split at h
      · cases rx with
        | dat rx =>
          cases rx
          obtain ⟨c, rfl, q⟩ := h
          exact .inl ⟨c, z, rfl, rfl, hQ _ _ _ (Same.refl H) (.bl _) q⟩
      · exact h.elim
  · exact lift_inseq R rx ry h hQ

/-! ### places -/
def ixX (st : DSto) (x y : Va) (Q : D → Prop) : Prop := match y with
  | .dat (.int i) => match x with
    | .dat (.str z) => z.length ≤ sizeLine ∧ (match atI z.cps.toList i with
      | some c => Q (.str ⟨#[c]⟩)
      | none => False)
    | x => match seqX st x with
      | some ds => (match atI ds i with
        | some d => Q d
        | none => False)
      | none => False
  | _ => False
def rIxX (K : PySem.W.Frag) : R2 := fun x y H Q => rIxL K x y H Q ∨ rIxT K x y H Q ∨ rIxS x y H Q
theorem ix_X {X : Cx} : IxR X (rIxX X.K) := by
  intro value slice pins s σ H x y v u Q I rx ry h hs
  rcases h with h | h | h
  · exact ix_list value slice pins s σ H x y v u Q I rx ry h hs
  · exact ix_tup value slice pins s σ H x y v u Q I rx ry h hs
  · exact ix_str value slice pins s σ H x y v u Q I rx ry h hs
section
variable {K : PySem.W.Frag} {mg : Str → Option Value} {ω : Wd} {H : Hp}
theorem Reps.atI {xs : List V} {ds : List D} {i : Int} {d : D} (r : Reps K mg ω H xs ds) (h : L2.atI ds i = some d) : ∃ v, L2.atI xs i = some v ∧ Rep K mg ω H v d := by
  unfold L2.atI at h ⊢
  rw [r.length]
  cases e : ixN ds.length i with
  | none => rw [e] at h; cases h
  | some j =>
    rw [e] at h
    exact r.get h
end
theorem lift_ix {K : PySem.W.Frag} {mg : Str → Option Value} : Lift2 K mg (rIxX K) ixX := by
  intro ω H σ env st v u x y Qd Q R rx ry h hQ
  unfold ixX at h
  split at h
  · rename_i i
    cases ry with
    | dat ry =>
      cases ry
      split at h
      · rename_i z
        cases rx with
        | dat rx =>
          cases rx
          obtain ⟨hz, h⟩ := h
          split at h
          · rename_i c hc
            exact .inr (.inr ⟨z, i, c, rfl, rfl, hz, hc, hQ _ _ _ (Same.refl H) (.str _) h⟩)
          · exact h.elim
      · split at h
        · rename_i ds hds
          split at h
          · rename_i d hd
            obtain ⟨a, xs, rfl, hs, rs⟩ := seqX_rep R rx hds
            obtain ⟨w, hw, rw'⟩ := rs.atI hd
            rcases hs with hs | hs
            · exact .inl ⟨a, xs, i, w, rfl, rfl, hs, hw, hQ _ _ _ (Same.refl H) rw' h⟩
            · exact .inr (.inl ⟨a, xs, i, w, rfl, rfl, hs, hw, hQ _ _ _ (Same.refl H) rw' h⟩)
          · exact h.elim
        · exact h.elim
  · exact h.elim

/-! ### slices -/
def cutD {α : Type} (xs : List α) (lo hi : Option Int) : List α := (xs.drop (HT.sIx xs.length 0 lo)).take (HT.sIx xs.length xs.length hi - HT.sIx xs.length 0 lo)
def slX (st : DSto) (x : Va) (lo hi : Option Int) (Q : D → Prop) : Prop := match x with
  | .dat (.str z) => z.length ≤ sizeLine ∧ Q (.str (cutS z lo hi))
  | .dat (.tup ds) => Q (.tup (cutD ds lo hi))
  | .dat (.scr ns) => Q (.lst ((cutD ns lo hi).map .int))
  | x => match lstX st x with
    | some ds => Q (.lst (cutD ds lo hi))
    | none => False
def rSlX (K : PySem.W.Frag) : V → Option Int → Option Int → Hp → VK → Prop := fun x lo hi H Q => rSlA K x lo hi H Q ∨ rSlS x lo hi H Q ∨ rSlL K x lo hi H Q
theorem sl_X {X : Cx} : SlR X (rSlX X.K) := sl_tupA.or (sl_str.or sl_list)
section
variable {K : PySem.W.Frag} {mg : Str → Option Value} {ω : Wd} {H : Hp}
theorem Reps.cut {xs : List V} {ds : List D} (r : Reps K mg ω H xs ds) (lo hi : Option Int) : Reps K mg ω H (cutV xs lo hi) (cutD ds lo hi) := by
  unfold cutV cutD
  rw [r.length]
  exact (r.drop _).take _
theorem lift_sl {σ : St} {env : DEnv} {st : DSto} {v : V} {x : Va} {lo hi : Option Int} {Qd : D → Prop} {Q : VK} (R : RepS K mg ω H σ env st) (rx : RepV K mg ω H v x) (h : slX st x lo hi Qd) (hQ : ∀ d H' w, Same H H' → Rep K mg ω H' w d → Qd d → Q w H') : rSlX K v lo hi H Q := by
  unfold slX at h
  split at h
  · rename_i z
    cases rx with
    | dat rx =>
      cases rx
      exact .inr (.inl ⟨z, rfl, h.1, hQ _ _ _ (Same.refl H) (.str _) h.2⟩)
  · rename_i ds
    cases rx with
    | dat rx =>
      cases rx with
      | @tup a xs _ h1 r1 =>
        refine .inl ⟨a, xs, rfl, h1, fun e => ?_, fun _ p hp => hQ _ _ _ (same_upd hp) (rep_tup_new R.w hp (r1.cut lo hi)) h⟩
        have e2 : cutD ds lo hi = ds := by
          unfold cutD
          rw [r1.length] at e
          rw [e.1, e.2]
          simp
        rw [e2] at h
        exact hQ _ _ _ (Same.refl H) (.tup h1 r1) h
  · rename_i ns
    cases rx with
    | dat rx =>
      cases rx with
      | @scr a _ h1 =>
        have hs : SqL K H a (ns.map V.int) := h1.elim (fun ⟨o, q⟩ => .inl (.inr ⟨o, q⟩)) fun q => q H
        have rr : ∀ l : List Int, Reps K mg ω H (l.map V.int) (l.map D.int) := fun l => by
          induction l with
          | nil => exact .nil
          | cons i r ih => exact .cons (.int i) ih
        have e : cutD (ns.map D.int) lo hi = (cutD ns lo hi).map D.int := by
          unfold cutD
          rw [List.map_take, List.map_drop, List.length_map]
        refine .inr (.inr ⟨a, _, rfl, hs, fun p hp => hQ _ _ _ (same_upd hp) (rep_lst_new R.w hp ((rr ns).cut lo hi)) ?_⟩)
        rw [e]
        exact h
  · split at h
    · rename_i ds hds
      obtain ⟨a, xs, rfl, h1, r1⟩ := lstX_rep R rx hds
      exact .inr (.inr ⟨a, xs, rfl, SqL.of h1, fun p hp => hQ _ _ _ (same_upd hp) (rep_lst_new R.w hp (r1.cut lo hi)) h⟩)
    · exact h.elim
end
/-- a bound of a slice -/
abbrev LO := DEnv → DSto → (Option Int → DSto → Prop) → XD → Prop
def upO (K : PySem.W.Frag) (mg : Str → Option Value) (W : WX) (t : LO) : TO := fun σ H Q => ∃ ω env st Qd Ed, RepS K mg ω H σ env st ∧ t env st Qd Ed ∧
  (∀ i st' ω' H', Ext ω H ω' H' → RepS K mg ω' H' σ env st' → Qd i st' → Q i H') ∧ upX K mg W ω H σ env Ed
theorem _root_.L2.PO.imp {X : Cx} {e : Option Expr} {t t' : TO} (h : PO X e t) (i : ∀ σ H Q, t' σ H Q → t σ H Q) : PO X e t' := ⟨fun pins s σ H Q I q => h.run pins s σ H Q I (i σ H Q q)⟩
section
variable {X : Cx} {W : WX} {mg : Str → Option Value}
theorem up_none {K : PySem.W.Frag} : PO X none (upO K mg W fun env st Q E => Q none st) := po_none.imp fun σ H Q ⟨ω, env, st, Qd, Ed, R, t, hQ, hE⟩ => hQ none st ω H (.refl _ _) R t
theorem up_some {K : PySem.W.Frag} {e : Expr} {te : LE} (h : PE X e (upE K mg W te)) : PO X (some e) (upO K mg W fun env st Q E => te env st (fun x s1 => match x with | .dat (.int i) => Q (some i) s1 | _ => False) E) := by
  refine (po_some h).imp fun σ H Q ⟨ω, env, st, Qd, Ed, R, t, hQ, hE⟩ => ?_
  refine ⟨ω, env, st, _, Ed, R, t, fun x s1 ω1 H1 v e1 R1 r1 t1 => ?_, hE⟩
  split at t1
  · rename_i i
    cases r1 with
    | dat r1 => cases r1; exact ⟨i, rfl, hQ (some i) s1 ω1 H1 e1 R1 t1⟩
  · exact t1.elim
theorem up_sl {e : Expr} {lo hi : Option Expr} {te : LE} {tl th : LO} {p2 pos : Pos} (he : PE X e (upE X.K mg W te)) (hl : PO X lo (upO X.K mg W tl)) (hu : PO X hi (upO X.K mg W th)) :
    PE X (.Subscript e (.Slice lo hi none p2) pos) (upE X.K mg W fun env st Q E => te env st (fun x s1 => tl env s1 (fun l s2 => th env s2 (fun h s3 => slX s3 x l h fun d => Q (.dat d) s3) E) E) E) := by
  refine (pe_slice sl_X he hl hu).imp fun σ H Q ⟨ω, env, st, Qd, Ed, R, t, hQ, hE⟩ => ?_
  refine ⟨ω, env, st, _, Ed, R, t, fun x s1 ω1 H1 v e1 R1 r1 t1 => ?_, hE⟩
  refine ⟨ω1, env, s1, _, Ed, R1, t1, fun l s2 ω2 H2 e2 R2 t2 => ?_, hE.mono e1⟩
  refine ⟨ω2, env, s2, _, Ed, R2, t2, fun h s3 ω3 H3 e3 R3 t3 => ?_, (hE.mono e1).mono e2⟩
  exact lift_sl R3 (r1.mono (e2.trans e3) R1.w) t3 fun d H' w s rw q => hQ (.dat d) s3 ω3 H' w (((e1.trans e2).trans e3).trans (.of_same s)) (R3.same s) (.dat rw) q
end

/-! ### displays -/
section
variable {X : Cx} {W : WX} {mg : Str → Option Value}
theorem up_nil : PA X [] (upA X.K mg W fun env st Q E => Q [] st) := pa_nil.imp fun σ H Q ⟨ω, env, st, Qd, Ed, R, t, hQ, hE⟩ => hQ [] st ω H [] (.refl _ _) R .nil t
theorem up_cons {e : Expr} {es : List Expr} {te : LE} {t : LA} (ha : PE X e (upE X.K mg W te)) (hr : PA X es (upA X.K mg W t)) (hs : starEach (e :: es) X.env = (false, eval e X.env) :: starEach es X.env) :
    PA X (e :: es) (upA X.K mg W fun env st Q E => te env st (fun x s1 => t env s1 (fun xs s2 => Q (x :: xs) s2) E) E) := by
  refine (pa_cons ha hr hs).imp fun σ H Q ⟨ω, env, st, Qd, Ed, R, t, hQ, hE⟩ => ?_
  refine ⟨ω, env, st, _, Ed, R, t, fun x s1 ω1 H1 v e1 R1 r1 t1 => ?_, hE⟩
  refine ⟨ω1, env, s1, _, Ed, R1, t1, fun ds s3 ω3 H3 vs e3 R3 r3 t3 => ?_, hE.mono e1⟩
  exact hQ (x :: ds) s3 ω3 H3 (v :: vs) (e1.trans e3) R3 (.cons (r1.mono e3 R1.w) r3) t3
theorem up_tup {es : List Expr} {t : LA} {k : Nat} {pos : Pos} (h : PA X es (upA X.K mg W t)) : PE X (.Tuple es k pos) (upE X.K mg W fun env st Q E => t env st (fun xs s1 => useAll xs s1 fun ds s2 => ds.length ≤ sizeLine ∧ Q (.dat (.tup ds)) s2) E) := by
  refine (pe_tup h).imp fun σ H Q ⟨ω, env, st, Qd, Ed, R, t, hQ, hE⟩ => ?_
  refine ⟨ω, env, st, _, Ed, R, t, fun xs s1 ω1 H1 vs e1 R1 r1 t1 => ?_, hE⟩
  obtain ⟨ds, s2, ω2, e2, R2, r2, t2⟩ := useAll_rep R1 r1 t1
  exact ⟨by rw [r2.length]; exact t2.1, fun p hp => hQ _ s2 ω2 _ _ ((e1.trans e2).trans (.of_same (same_upd hp))) (R2.same (same_upd hp)) (.dat (rep_tup_new R2.w hp r2)) t2.2⟩

/-- a new list of such things: told as data, or as a list of the def's own -/
def newL (own : Bool) (ds : List D) (st : DSto) (Q : QV) : Prop := if own then Q (.loc st.length) (st ++ [(true, ds)]) else Q (.dat (.lst ds)) st
theorem newL_rep {K : PySem.W.Frag} {ω : Wd} {H : Hp} {σ : St} {env : DEnv} {st : DSto} {own : Bool} {ds : List D} {xs : List V} {p : Addr} {Q : QV} (R : RepS K mg ω H σ env st) (hp : H p = none) (r : Reps K mg ω H xs ds) (h : newL own ds st Q) :
    ∃ x st' ω', Ext ω H ω' (upd H p (.lst xs)) ∧ RepS K mg ω' (upd H p (.lst xs)) σ env st' ∧ RepV K mg ω' (upd H p (.lst xs)) (.ref p) x ∧ Q x st' := by
  have s := same_upd (o := HO.lst xs) hp
  cases own with
  | false => exact ⟨_, st, ω, .of_same s, R.same s, .dat (rep_lst_new R.w hp r), h⟩
  | true =>
    have nb := free_busy R.w hp
    have na : p ∉ ω.ads := fun z => by
      obtain ⟨ys, q⟩ := R.w.all p z
      rw [hp] at q
      cases q
    obtain ⟨ω', hω⟩ : ∃ ω' : Wd, ω' = { ω with ads := ω.ads ++ [p], liv := p :: ω.liv } := ⟨_, rfl⟩
    have hgs : ω'.gs = ω.gs := by rw [hω] <;> rfl
    have hm : ω'.mut = p :: ω.mut := by
      unfold Wd.mut
      rw [hgs, hω] <;> rfl
    have hb : ω'.busy = p :: ω.busy := by
      unfold Wd.busy
      rw [hm, hω] <;> rfl
    have ext : Ext ω H ω' (upd H p (.lst xs)) := ⟨⟨[p], by rw [hω]⟩, ⟨[], by rw [hω] <;> simp⟩, by rw [hω], fun a o ha hn => ⟨s a o ha, by
      rw [hm]
      intro z
      rcases List.mem_cons.mp z with z | z
      · exact ne_of_none ha hp z
      · exact hn z⟩⟩
    have w' : WOk ω' (upd H p (.lst xs)) := by
      refine ⟨by rw [hb]; exact List.nodup_cons.mpr ⟨nb, R.w.nd⟩, ?_, fun a ha => ?_, fun a ha => ?_, ?_, ?_⟩
      · rw [hω]
        exact List.nodup_append.mpr ⟨R.w.nda, by simp, fun a ha b hb2 e => na (by rw [List.mem_singleton] at hb2; rw [← hb2, ← e]; exact ha)⟩
      · rw [hω] at ha
        rcases List.mem_append.mp ha with ha | ha
        · obtain ⟨ys, q⟩ := R.w.all a ha
          exact ⟨ys, s _ _ q⟩
        · rw [List.mem_singleton] at ha
          subst ha
          exact ⟨xs, upd_same⟩
      · rw [hω] at ha ⊢
        rcases List.mem_cons.mp ha with ha | ha
        · subst ha
          exact List.mem_append_right _ (List.mem_singleton.mpr rfl)
        · exact List.mem_append_left _ (R.w.sub a ha)
      · rw [hω]
        exact (R.w.same s).dls
      · rw [hω]
        exact (R.w.same s).out
    refine ⟨.loc st.length, st ++ [(true, ds)], ω', ext, ⟨w', R.e.mono ext R.w, by rw [hω, List.length_append, List.length_append, R.s.1] <;> rfl, fun n b es hn => ?_⟩, .loc (by rw [hω, R.s.1]; simp), h⟩
    by_cases hl : n < st.length
    · rw [List.getElem?_append_left hl] at hn
      obtain ⟨a, ys, h1, h2, h3, h4, h5⟩ := R.s.2 n b es hn
      refine ⟨a, ys, by rw [hω, List.getElem?_append_left (by rw [← R.s.1]; exact hl)]; exact h1, s _ _ h2, h3.mono ext R.w, fun z => by rw [hω]; exact List.mem_cons_of_mem _ (h4 z), fun z => ?_⟩
      rw [hb]
      intro q
      rcases List.mem_cons.mp q with q | q
      · exact ne_of_none h2 hp q
      · exact h5 z q
    · have hn2 : n = st.length := by
        have := (List.getElem?_eq_some_iff.mp hn).1
        rw [List.length_append] at this
        simp at this
        omega
      subst hn2
      rw [List.getElem?_append_right (Nat.le_refl _)] at hn
      simp at hn
      obtain ⟨rfl, rfl⟩ := hn
      exact ⟨p, xs, by rw [hω, R.s.1]; simp, upd_same, r.mono ext R.w, fun _ => by rw [hω]; exact List.mem_cons_self, fun z => by cases z⟩
theorem up_lst {es : List Expr} {t : LA} {pos : Pos} (own : Bool) (h : PA X es (upA X.K mg W t)) : PE X (.List es pos) (upE X.K mg W fun env st Q E => t env st (fun xs s1 => useAll xs s1 fun ds s2 => ds.length ≤ sizeLine ∧ newL own ds s2 Q) E) := by
  refine (pe_lst h).imp fun σ H Q ⟨ω, env, st, Qd, Ed, R, t, hQ, hE⟩ => ?_
  refine ⟨ω, env, st, _, Ed, R, t, fun xs s1 ω1 H1 vs e1 R1 r1 t1 => ?_, hE⟩
  obtain ⟨ds, s2, ω2, e2, R2, r2, t2⟩ := useAll_rep R1 r1 t1
  refine ⟨by rw [r2.length]; exact t2.1, fun p hp => ?_⟩
  obtain ⟨x, s3, ω3, e3, R3, r3, t3⟩ := newL_rep R2 hp r2 t2.2
  exact hQ x s3 ω3 _ _ ((e1.trans e2).trans e3) R3 r3 t3
end
end Pd

/-! Pd: calls of defs by data. -/
namespace Pd
open PySem L2

/-- what a def does, by data: arguments, what is wanted of the answer, of an exception -/
abbrev SpecD := List D → (D → Prop) → (Exn → Prop) → Prop
/-- the same as a promise of the hand layer -/
def liftSp (K : PySem.W.Frag) (mg : Str → Option Value) (n : Nat) (S : SpecD) : Sp := fun vs H Q E => vs.length = n ∧ ∃ ω ds Qd Ed, ω.ads = [] ∧ ω.liv = [] ∧ WOk ω H ∧ Reps K mg ω H vs ds ∧ S ds Qd Ed ∧
  (∀ d ω' H' v, Ext ω H ω' H' → ω'.ads = [] → ω'.liv = [] → WOk ω' H' → Rep K mg ω' H' v d → Qd d → Q v H') ∧
  (∀ ex ω' H' cls dx, Ext ω H ω' H' → ω'.ads = [] → ω'.liv = [] → WOk ω' H' → RepX K mg ω' H' cls dx ex → Ed ex → E cls dx H')

section
variable {K : PySem.W.Frag} {mg : Str → Option Value} {ω ω' : Wd} {H H' : Hp} {σ : St} {env : DEnv} {st : DSto}
mutual
theorem Rep.congr (hb : ∀ a, a ∈ ω'.busy → a ∈ ω.busy) (hg : ω'.gam = ω.gam) : ∀ {v : V} {d : D}, Rep K mg ω H v d → Rep K mg ω' H v d
  | _, _, .non => .non
  | _, _, .bl b => .bl b
  | _, _, .int i => .int i
  | _, _, .str x => .str x
  | _, _, .tup h t => .tup h (Reps.congr hb hg t)
  | _, _, .lst h n t => .lst h (fun z => n (hb _ z)) (Reps.congr hb hg t)
  | _, _, .obj hm h l t => .obj hm h l (Reps.congr hb hg t)
  | _, _, .deal h => .deal (by rw [hg]; exact h)
  | _, _, .scr h => .scr h
theorem Reps.congr (hb : ∀ a, a ∈ ω'.busy → a ∈ ω.busy) (hg : ω'.gam = ω.gam) : ∀ {xs : List V} {ds : List D}, Reps K mg ω H xs ds → Reps K mg ω' H xs ds
  | _, _, .nil => .nil
  | _, _, .cons r t => .cons (Rep.congr hb hg r) (Reps.congr hb hg t)
end
/-- the world of a callee -/
def Wd.callee (ω : Wd) : Wd := ⟨[], [], ω.gam, ω.phi ++ ω.liv⟩
theorem gs_eq (h : ω'.gam = ω.gam) : ω'.gs = ω.gs := by unfold Wd.gs; rw [h]
theorem busy_iff {a : Addr} : a ∈ ω.busy ↔ a ∈ ω.liv ∨ a ∈ ω.gs ∨ a ∈ ω.phi := by
  unfold Wd.busy Wd.mut
  simp only [List.mem_append, or_assoc]
theorem callee_busy {a : Addr} : a ∈ ω.callee.busy ↔ a ∈ ω.busy := by
  rw [busy_iff, busy_iff, gs_eq (ω' := ω.callee) (ω := ω) rfl]
  simp only [Wd.callee, List.mem_append, List.not_mem_nil, false_or]
  constructor
  · rintro (h | h | h)
    · exact .inr (.inl h)
    · exact .inr (.inr h)
    · exact .inl h
  · rintro (h | h | h)
    · exact .inr (.inr h)
    · exact .inl h
    · exact .inr (.inl h)
theorem nd3 {α : Type} {a b c : List α} : (a ++ b ++ c).Nodup ↔ ([] ++ b ++ (c ++ a)).Nodup := by
  have h1 : List.Perm (a ++ b ++ c) (b ++ (c ++ a)) := by
    rw [List.append_assoc]
    exact (List.perm_append_comm).trans (by rw [List.append_assoc])
  rw [List.nil_append]
  exact h1.nodup_iff
theorem callee_ok (w : WOk ω H) : WOk ω.callee H := by
  refine ⟨?_, List.nodup_nil, (fun a h => by cases h), (fun a h => by cases h), w.dls, fun a h => ?_⟩
  · have nd := w.nd
    unfold Wd.busy Wd.mut at nd ⊢
    rw [gs_eq (ω' := ω.callee) (ω := ω) rfl]
    exact nd3.mp nd
  · rcases List.mem_append.mp (show a ∈ ω.phi ++ ω.liv from h) with h | h
    · exact w.out a h
    · exact w.all a (w.sub a h)
/-- the caller's world behind the call -/
theorem back (R : RepS K mg ω H σ env st) {ω2 : Wd} {H2 : Hp} (e : Ext ω.callee H ω2 H2) (ha : ω2.ads = []) (hl : ω2.liv = []) (w2 : WOk ω2 H2) :
    ∃ ω3 : Wd, ω3.gam = ω2.gam ∧ (∀ a, a ∈ ω3.busy ↔ a ∈ ω2.busy) ∧ Ext ω H ω3 H2 ∧ RepS K mg ω3 H2 σ env st := by
  obtain ⟨ω3, hω⟩ : ∃ ω3 : Wd, ω3 = ⟨ω.ads, ω.liv, ω2.gam, ω.phi⟩ := ⟨_, rfl⟩
  have hg : ω3.gam = ω2.gam := by rw [hω]
  have hgs := gs_eq hg
  have hphi : ω2.phi = ω.phi ++ ω.liv := e.phi
  have hb : ∀ a, a ∈ ω3.busy ↔ a ∈ ω2.busy := fun a => by
    rw [busy_iff, busy_iff, hgs, hl, hphi, hω]
    simp only [List.mem_append, List.not_mem_nil, false_or]
    constructor
    · rintro (h | h | h)
      · exact .inr (.inr h)
      · exact .inl h
      · exact .inr (.inl h)
    · rintro (h | h | h)
      · exact .inr (.inl h)
      · exact .inr (.inr h)
      · exact .inl h
  have mc : ω.callee.mut = ω.gs := by
    unfold Wd.mut
    rw [gs_eq (ω' := ω.callee) (ω := ω) rfl] <;> rfl
  have m2 : ω2.mut = ω2.gs := by
    unfold Wd.mut
    rw [hl] <;> rfl
  have nd := R.w.nd
  unfold Wd.busy Wd.mut at nd
  rw [List.append_assoc] at nd
  have lg : ∀ a, a ∈ ω.liv → a ∉ ω.gs := fun a h1 h2 => (List.nodup_append.mp nd).2.2 a h1 a (List.mem_append_left _ h2) rfl
  have adn : ∀ a ∈ ω.ads, a ∉ ω.gs := fun a h => by
    obtain ⟨n, hn, e1⟩ := List.mem_iff_getElem.mp h
    have hn2 : n < st.length := by rw [R.s.1]; exact hn
    obtain ⟨a', xs, q1, q2, q3, q4, q5⟩ := R.s.2 n st[n].1 st[n].2 (List.getElem?_eq_getElem hn2)
    rw [List.getElem?_eq_getElem hn, e1] at q1
    cases q1
    cases hbb : st[n].1 with
    | true => exact lg a (q4 hbb)
    | false => exact fun z => q5 hbb (busy_iff.mpr (.inr (.inl z)))
  have kp : ∀ a o, H a = some o → a ∉ ω.gs → H2 a = some o ∧ a ∉ ω2.gs := fun a o h n => by
    have q := e.keep a o h (by rw [mc]; exact n)
    rw [m2] at q
    exact q
  have ext : Ext ω H ω3 H2 := ⟨⟨[], by rw [hω] <;> simp⟩, by rw [hg]; exact e.gam, by rw [hω], fun a o h n => by
    have n1 : a ∉ ω.liv := fun z => n (List.mem_append_left _ z)
    have n2 : a ∉ ω.gs := fun z => n (List.mem_append_right _ z)
    obtain ⟨q1, q2⟩ := kp a o h n2
    refine ⟨q1, fun z => ?_⟩
    rcases List.mem_append.mp z with z | z
    · rw [hω] at z
      exact n1 z
    · rw [hgs] at z
      exact q2 z⟩
  refine ⟨ω3, hg, hb, ext, ⟨⟨?_, by rw [hω]; exact R.w.nda, fun a h => ?_, by rw [hω]; exact R.w.sub, by rw [hg]; exact w2.dls, fun a h => ?_⟩, R.e.mono ext R.w, by rw [hω]; exact R.s.1, fun n b ds hn => ?_⟩⟩
  · have nd2 := w2.nd
    unfold Wd.busy Wd.mut at nd2 ⊢
    rw [hl, hphi] at nd2
    rw [hgs, hω]
    exact nd3.mpr nd2
  · rw [hω] at h
    obtain ⟨xs, q⟩ := R.w.all a h
    exact ⟨xs, (kp a _ q (adn a h)).1⟩
  · have h' : a ∈ ω2.phi := by
      rw [hphi]
      rw [hω] at h
      exact List.mem_append_left _ h
    exact w2.out a h'
  · obtain ⟨a, xs, q1, q2, q3, q4, q5⟩ := R.s.2 n b ds hn
    refine ⟨a, xs, by rw [hω]; exact q1, (kp a _ q2 (adn a (List.mem_of_getElem? q1))).1, q3.mono ext R.w, fun z => by rw [hω]; exact q4 z, fun z => ext.nb q2 (q5 z)⟩
end

section
variable {X : Cx} {W : WX} {mg : Str → Option Value} {k : Nat} {f : Addr} {fd : FuncData} {ps : List Str} {S : SpecD}
/-- the callee's promise, of arguments that are borne -/
theorem liftSp_of {ω : Wd} {H : Hp} {σ : St} {env : DEnv} {st : DSto} {vs : List V} {ds : List D} {n : Nat} {Q : VK} {Qd : QV} {Ed : XD} (R : RepS X.K mg ω H σ env st) (r : Reps X.K mg ω H vs ds) (hn : ds.length = n)
    (h : S ds (fun d => Qd (.dat d) st) (fun ex => Ed ex st)) (hQ : ∀ d st' ω' H' v, Ext ω H ω' H' → RepS X.K mg ω' H' σ env st' → RepV X.K mg ω' H' v d → Qd d st' → Q v H') (hE : upX X.K mg W ω H σ env Ed) :
    liftSp X.K mg n S vs H Q (WE W σ) := by
  refine ⟨r.length.trans hn, ω.callee, ds, _, _, rfl, rfl, callee_ok R.w, r.congr (fun a h => callee_busy.mp h) rfl, h, fun d ω2 H2 v e ha hl w2 rv q => ?_, fun ex ω2 H2 cls dx e ha hl w2 rx q => ?_⟩
  · obtain ⟨ω3, h1, h2, h3, h4⟩ := back R e ha hl w2
    exact hQ (.dat d) st ω3 H2 v h3 h4 (.dat (rv.congr (fun a h => (h2 a).mp h) h1)) q
  · obtain ⟨ω3, h1, h2, h3, h4⟩ := back R e ha hl w2
    obtain ⟨C, d, xs, q1, q2, q3, q4, q5, q6⟩ := rx
    exact hE ex st ω3 H2 cls dx h3 h4 ⟨C, d, xs, q1, q2, q3, q4, q5, q6.congr (fun a h => (h2 a).mp h) h1⟩ q
theorem up_call0 {x : Str} {p pos : Pos} (F : FnOk X.prog X.w X.K X.mg X.base (L2.CX X.prog X.w) k f fd ps (liftSp X.K mg ps.length S)) (hr : Room k X.A) (hg : Gl X x) (hm : X.mg x = some (.ref f)) (hk : PySem.W.keepIn X.K (.ref f) = true)
    (hb : Binds X.K fd ps []) (tk : Takes X W) (hdb : (x == ("__debug__" : Str)) = false) :
    PE X (.Call (.Name x p) [] [] pos) (upE X.K mg W fun env st Q E => ([] : List D).length = ps.length ∧ S [] (fun d => Q (.dat d) st) (fun ex => E ex st)) := by
  refine ⟨fun pins s σ H Q I ⟨ω, env, st, Qd, Ed, R, t0, hQ, hE⟩ => ?_⟩
  refine wpAny_Call_Name_kw (ld_glob I hg hm ?_ hdb)
  exact PySem.W.callWith_K0 I.kIn hk (run_fnS F hr hb (passAt tk σ) I .nil (liftSp_of R .nil t0.1 t0.2 hQ hE))
/-- f(e, ..) -/
theorem up_call {x : Str} {p pos : Pos} {e : Expr} {es : List Expr} {t : LA} (F : FnOk X.prog X.w X.K X.mg X.base (L2.CX X.prog X.w) k f fd ps (liftSp X.K mg ps.length S)) (hr : Room k X.A) (hg : Gl X x) (hm : X.mg x = some (.ref f)) (hk : PySem.W.keepIn X.K (.ref f) = true)
    (hb : Binds X.K fd ps []) (tk : Takes X W) (ha : PA X (e :: es) (upA X.K mg W t)) (hdb : (x == ("__debug__" : Str)) = false) (he : starEach (e :: es) X.env = (false, eval e X.env) :: starEach es X.env) (hpl : (backTo pos (starEach es X.env)).any (·.1) = false) :
    PE X (.Call (.Name x p) (e :: es) [] pos) (upE X.K mg W fun env st Q E => t env st (fun xs s1 => useAll xs s1 fun ds s2 => ds.length = ps.length ∧ S ds (fun d => Q (.dat d) s2) (fun ex => E ex s2)) E) := by
  refine (pe_callS F hr hg hm hk hb (E := WE W) (fun σ => passAt tk σ) ha hdb he hpl).imp fun σ H Q ⟨ω, env, st, Qd, Ed, R, t0, hQ, hE⟩ => ?_
  refine ⟨ω, env, st, _, Ed, R, t0, fun xs s1 ω1 H1 vs e1 R1 r1 t1 => ?_, hE⟩
  obtain ⟨ds, s2, ω2, e2, R2, r2, t2⟩ := useAll_rep R1 r1 t1
  exact liftSp_of R2 r2 t2.1 t2.2 (fun d st' ω' H' v e3 R3 r3 q => hQ d st' ω' H' v ((e1.trans e2).trans e3) R3 r3 q) ((hE.mono e1).mono e2)
/-- how keywords bind: us the positional values, ws the keywords', ks their names; g puts them in the parameters' order -/
def KBindsD (K : PySem.W.Frag) (fd : FuncData) (ps : List Str) (n : Nat) (ks : List Str) (perm : List Nat) : Prop :=
  perm.length = ps.length ∧ (∀ i ∈ perm, i < n + ks.length) ∧ ∀ (s : Shared) (us ws : List Value), K.In s.heap → us.length = n → ws.length = ks.length → BindsTo s fd ⟨us, ks.zip ws⟩ (ps.zip (perm.map fun i => (us ++ ws).getD i .none))
theorem vals_perm {vs : List V} {us : List Value} (r : Vals vs us) {perm : List Nat} (h : ∀ i ∈ perm, i < vs.length) : Vals (perm.map fun i => vs.getD i .non) (perm.map fun i => us.getD i .none) := by
  induction perm with
  | nil => exact .nil
  | cons i r2 ih =>
    refine .cons ?_ (ih fun j hj => h j (List.mem_cons_of_mem _ hj))
    have hi := h i List.mem_cons_self
    obtain ⟨u, h1, h2⟩ := r.get (List.getElem?_eq_getElem hi)
    show RelV (vs.getD i .non) (us.getD i .none)
    rw [List.getD_eq_getElem?_getD, List.getD_eq_getElem?_getD, h1, List.getElem?_eq_getElem hi]
    exact h2
theorem reps_perm {ω : Wd} {H : Hp} {vs : List V} {ds : List D} (r : Reps X.K mg ω H vs ds) {perm : List Nat} (h : ∀ i ∈ perm, i < vs.length) : Reps X.K mg ω H (perm.map fun i => vs.getD i .non) (perm.map fun i => ds.getD i .non) := by
  induction perm with
  | nil => exact .nil
  | cons i r2 ih =>
    refine .cons ?_ (ih fun j hj => h j (List.mem_cons_of_mem _ hj))
    have hi := h i List.mem_cons_self
    obtain ⟨u, h1, h2⟩ := r.getV (List.getElem?_eq_getElem hi)
    show Rep X.K mg ω H (vs.getD i .non) (ds.getD i .non)
    rw [List.getD_eq_getElem?_getD, List.getD_eq_getElem?_getD, h1, List.getElem?_eq_getElem hi]
    exact h2
theorem run_fnK {pins : List (Addr × Obj)} {σ : St} {H : Hp} {s : Shared} {Q : VK} {us ws : List Value} {vs zs : List V} {ks : List Str} {n : Nat} {perm : List Nat} {sp : Sp} (F : FnOk X.prog X.w X.K X.mg X.base (L2.CX X.prog X.w) k f fd ps sp) (hr : Room k X.A)
    (hb : KBindsD X.K fd ps n ks perm) (tk : Takes X W) (I : Inv X pins σ H s) (r : Vals vs us) (rz : Vals zs ws) (l1 : vs.length = n) (l2 : zs.length = ks.length) (h : sp (perm.map fun i => (vs ++ zs).getD i .non) H Q (WE W σ)) :
    wpAny (model X.prog X.w) X.A (call (.ref f) us (ks.zip ws)) (EP X pins σ Q) X.xe s := by
  have r2 := vals_perm (r.append rz) (perm := perm) (fun i hi => by rw [List.length_append, l1, l2]; exact hb.2.1 i hi)
  refine wpAny_call (codeAny_mono (F.run X.A X.stack s H ⟨us, ks.zip ws⟩ _ _ Q (WE W σ) hr I.env0 (hb.2.2 s us ws I.kIn (r.length.symm.trans l1) (rz.length.symm.trans l2)) r2 h) fun r s' hq => ?_)
  cases r with
  | error e => exact passAt tk σ pins H s e s' I hq
  | ok fl =>
    cases fl with
    | ret u => exact I.after hq
    | next => exact False.elim hq
    | brk => exact False.elim hq
    | cont => exact False.elim hq
/-- keyword arguments -/
theorem _root_.L2.PK.imp {X : Cx} {e : List Keyword} {t t' : TA} (h : PK X e t) (i : ∀ σ H Q, t' σ H Q → t σ H Q) : PK X e t' := ⟨fun p pins s σ H Q I q => h.run p pins s σ H Q I (i σ H Q q)⟩
theorem up_knil : PK X [] (upA X.K mg W fun env st Q E => Q [] st) := pk_nil.imp fun σ H Q ⟨ω, env, st, Qd, Ed, R, t, hQ, hE⟩ => hQ [] st ω H [] (.refl _ _) R .nil t
theorem up_kcons {e : Expr} {kws : List Keyword} {nm : Option Str} {kpos : Pos} {te : LE} {t : LA} (ha : PE X e (upE X.K mg W te)) (hr : PK X kws (upA X.K mg W t)) :
    PK X (⟨nm, e, kpos⟩ :: kws) (upA X.K mg W fun env st Q E => te env st (fun x s1 => t env s1 (fun xs s2 => Q (x :: xs) s2) E) E) := by
  refine (pk_cons ha hr).imp fun σ H Q ⟨ω, env, st, Qd, Ed, R, t, hQ, hE⟩ => ?_
  refine ⟨ω, env, st, _, Ed, R, t, fun x s1 ω1 H1 v e1 R1 r1 t1 => ?_, hE⟩
  refine ⟨ω1, env, s1, _, Ed, R1, t1, fun ds s3 ω3 H3 vs e3 R3 r3 t3 => ?_, hE.mono e1⟩
  exact hQ (x :: ds) s3 ω3 H3 (v :: vs) (e1.trans e3) R3 (.cons (r1.mono e3 R1.w) r3) t3
theorem RepVs.append {K : PySem.W.Frag} {ω : Wd} {H : Hp} : ∀ {vs us : List V} {xs ys : List Va}, RepVs K mg ω H vs xs → RepVs K mg ω H us ys → RepVs K mg ω H (vs ++ us) (xs ++ ys)
  | _, _, _, _, .nil, s => s
  | _, _, _, _, .cons r t, s => .cons r (RepVs.append t s)
/-- f(k = v, ..) -/
theorem up_callk0 {x : Str} {p pos : Pos} {kws : List Keyword} {ks : List Str} {perm : List Nat} {tk' : LA} (F : FnOk X.prog X.w X.K X.mg X.base (L2.CX X.prog X.w) k f fd ps (liftSp X.K mg ps.length S)) (hr : Room k X.A) (hg : Gl X x) (hm : X.mg x = some (.ref f))
    (hk : PySem.W.keepIn X.K (.ref f) = true) (hb : KBindsD X.K fd ps 0 ks perm) (tk : Takes X W) (hkw : PK X kws (upA X.K mg W tk')) (hdb : (x == ("__debug__" : Str)) = false)
    (hall : (backToKw pos (keywordEach kws X.env)).all (·.1.isSome) = true) (hks : (backToKw pos (keywordEach kws X.env)).filterMap (·.1) = ks) (hpl : ((backTo pos (starEach [] X.env)).any (·.1) || (backToKw pos (keywordEach kws X.env)).any (·.1.isNone)) = false) :
    PE X (.Call (.Name x p) [] kws pos) (upE X.K mg W fun env st Q E => tk' env st (fun ys s1 => useAll ys s1 fun es s2 => es.length = ks.length ∧ S (perm.map fun i => es.getD i .non) (fun d => Q (.dat d) s2) (fun ex => E ex s2)) E) := by
  refine ⟨fun pins s σ H Q I ⟨ω, env, st, Qd, Ed, R, t0, hQ, hE⟩ => ?_⟩
  refine wpAny_Call_Name_kw (ld_glob I hg hm ?_ hdb)
  refine PySem.W.callWith_KW0 (h₀ := X.base) I.ok.mod.kin hk hall ?_ hpl
  refine thn (hkw.run pos pins s σ H (fun zs H1 => zs.length = ks.length ∧ liftSp X.K mg ps.length S (perm.map fun i => ([] ++ zs).getD i .non) H1 Q (WE W σ)) I ⟨ω, env, st, _, Ed, R, t0, fun xs s1 ω1 H1 vs e1 R1 r1 t1 => ?_, hE⟩) fun ws s2 ⟨zs, H2, I2, rz, l2, q2⟩ => ⟨I2.kIn, ?_⟩
  · obtain ⟨ds, s2, ω2, e2, R2, r2, t2⟩ := useAll_rep R1 r1 t1
    refine ⟨r2.length.trans t2.1, ?_⟩
    refine liftSp_of R2 (reps_perm r2 (perm := perm) fun i hi => ?_) (by rw [List.length_map]; exact hb.1) t2.2 (fun d st' ω' H' v e3 R3 r3 q => hQ d st' ω' H' v ((e1.trans e2).trans e3) R3 r3 q) ((hE.mono e1).mono e2)
    have := hb.2.1 i hi
    rw [r2.length, t2.1]
    omega
  · rw [hks]
    exact run_fnK F hr hb tk I2 .nil rz rfl l2 q2
/-- f(e, .., k = v, ..) -/
theorem up_callk {x : Str} {p pos : Pos} {e : Expr} {es : List Expr} {kws : List Keyword} {ks : List Str} {n : Nat} {perm : List Nat} {t tk' : LA} (F : FnOk X.prog X.w X.K X.mg X.base (L2.CX X.prog X.w) k f fd ps (liftSp X.K mg ps.length S)) (hr : Room k X.A) (hg : Gl X x) (hm : X.mg x = some (.ref f))
    (hk : PySem.W.keepIn X.K (.ref f) = true) (hb : KBindsD X.K fd ps n ks perm) (tk : Takes X W) (ha : PA X (e :: es) (upA X.K mg W t)) (hkw : PK X kws (upA X.K mg W tk')) (hdb : (x == ("__debug__" : Str)) = false)
    (hall : (backToKw pos (keywordEach kws X.env)).all (·.1.isSome) = true) (hks : (backToKw pos (keywordEach kws X.env)).filterMap (·.1) = ks) (he : starEach (e :: es) X.env = (false, eval e X.env) :: starEach es X.env)
    (hpl : ((backTo pos (starEach (e :: es) X.env)).any (·.1) || (backToKw pos (keywordEach kws X.env)).any (·.1.isNone)) = false) (hn : (e :: es).length = n) (hlen : ∀ env st (Q : List Va → DSto → Prop) E, t env st Q E → t env st (fun xs s => xs.length = n ∧ Q xs s) E) :
    PE X (.Call (.Name x p) (e :: es) kws pos) (upE X.K mg W fun env st Q E => t env st (fun xs s1 => tk' env s1 (fun ys s2 => useAll (xs ++ ys) s2 fun ds s3 => ds.length = n + ks.length ∧ S (perm.map fun i => ds.getD i .non) (fun d => Q (.dat d) s3) (fun ex => E ex s3)) E) E) := by
  refine ⟨fun pins s σ H Q I ⟨ω, env, st, Qd, Ed, R, t0, hQ, hE⟩ => ?_⟩
  refine wpAny_Call_Name_kw (ld_glob I hg hm ?_ hdb)
  refine PySem.W.callWith_KW (h₀ := X.base) I.ok.mod.kin hk hall ?_ hpl he
  have q := ha.run pos pins s σ H (fun vs H1 => vs.length = n ∧ upA X.K mg W tk' σ H1 (fun zs H2 => zs.length = ks.length ∧ liftSp X.K mg ps.length S (perm.map fun i => (vs ++ zs).getD i .non) H2 Q (WE W σ))) I
    ⟨ω, env, st, _, Ed, R, hlen _ _ _ _ t0, fun xs s1 ω1 H1 vs e1 R1 r1 t1 => ⟨r1.length.trans t1.1, ω1, env, s1, _, Ed, R1, t1.2, fun ys s2 ω2 H2 zs e2 R2 r2 t2 => ?_, hE.mono e1⟩, hE⟩
  · refine thn q fun us s1 ⟨vs, H1, I1, r1, l1, q1⟩ => thn (hkw.run pos pins s1 σ H1 _ I1 q1) fun ws s2 ⟨zs, H2, I2, rz, l2, q2⟩ => ⟨I2.kIn, ?_⟩
    rw [hks]
    exact run_fnK F hr hb tk I2 r1 rz l1 l2 q2
  · obtain ⟨ds, s3, ω3, e3, R3, r3, t3⟩ := useAll_rep R2 ((r1.mono e2 R1.w).append r2) t2
    have hl : vs.length = n := r1.length.trans t1.1
    have hl2 := r3.length
    rw [List.length_append, hl, t3.1] at hl2
    refine ⟨by omega, ?_⟩
    refine liftSp_of R3 (reps_perm r3 (perm := perm) fun i hi => ?_) (by rw [List.length_map]; exact hb.1) t3.2 (fun d st' ω' H' v e4 R4 r4 q => hQ d st' ω' H' v (((e1.trans e2).trans e3).trans e4) R4 r4 q) (((hE.mono e1).mono e2).mono e3)
    have := hb.2.1 i hi
    rw [List.length_append, hl]
    omega
end
end Pd

/-! Pd: tests, targets, statements by data. -/
namespace Pd
open PySem L2

/-! ### truth, tests -/
def truX (st : DSto) (x : Va) (Q : Bool → Prop) : Prop := match x with
  | .dat .non => Q false
  | .dat (.bl b) => Q b
  | .dat (.int i) => Q (i != 0)
  | .dat (.str y) => y.length ≤ sizeLine ∧ Q ((y.length : Int) != 0)
  | x => ∃ ds, seqX st x = some ds ∧ Q (!ds.isEmpty)
section
variable {K : PySem.W.Frag} {mg : Str → Option Value} {ω : Wd} {H : Hp} {σ : St} {env : DEnv} {st : DSto}
theorem empty_reps {xs : List V} {ds : List D} (r : Reps K mg ω H xs ds) : xs.isEmpty = ds.isEmpty := by cases r <;> rfl
theorem truX_rep (R : RepS K mg ω H σ env st) {v : V} {x : Va} (r : RepV K mg ω H v x) {Q : Bool → Prop} (h : truX st x Q) : ∃ k, TruV K v H k ∧ Q k := by
  have seq : (∃ ds, seqX st x = some ds ∧ Q (!ds.isEmpty)) → ∃ k, TruV K v H k ∧ Q k := fun ⟨ds, hds, h⟩ => by
    · obtain ⟨a, xs, rfl, hs, rs⟩ := seqX_rep R r hds
      refine ⟨!ds.isEmpty, ?_, h⟩
      rcases hs with hs | hs
      · exact .inl ⟨xs, hs, by rw [empty_reps rs]⟩
      · exact .inr (.inl ⟨xs, hs, by rw [empty_reps rs]⟩)
  cases r with
  | loc e => exact seq h
  | dat r =>
    cases r with
    | non => exact ⟨false, rfl, h⟩
    | bl b => exact ⟨b, rfl, h⟩
    | int i => exact ⟨_, rfl, h⟩
    | str y => exact ⟨_, ⟨h.1, rfl⟩, h.2⟩
    | _ => exact seq h
end
section
variable {X : Cx} {W : WX} {mg : Str → Option Value} {a b c : Expr} {ta tb tc : LE} {pos : Pos}
/-- a value's truth as a test -/
theorem up_truth (ha : PE X a (upE X.K mg W ta)) (he : ∀ whole, isTrue a X.env whole = (do let v ← whole; standAt a.pos; holding [v] (truthy v))) :
    PT X a (upT X.K mg W fun env st Q E => ta env st (fun x s1 => truX s1 x fun k => Q k s1) E) := by
  refine (pt_truth ha he).imp fun σ H Q ⟨ω, env, st, Qd, Ed, R, t, hQ, hE⟩ => ?_
  refine ⟨ω, env, st, _, Ed, R, t, fun x s1 ω1 H1 v e1 R1 r1 t1 => ?_, hE⟩
  obtain ⟨k, h1, h2⟩ := truX_rep R1 r1 t1
  exact ⟨k, h1, hQ k s1 ω1 H1 e1 R1 h2⟩
theorem up_tnot {t : LT} (ha : PT X a (upT X.K mg W t)) : PT X (.UnaryOp .Not a pos) (upT X.K mg W fun env st Q E => t env st (fun k s => Q (!k) s) E) := by
  refine (pt_not ha).imp fun σ H Q ⟨ω, env, st, Qd, Ed, R, t, hQ, hE⟩ => ?_
  exact ⟨ω, env, st, _, Ed, R, t, fun k s1 ω1 H1 e1 R1 t1 => hQ (!k) s1 ω1 H1 e1 R1 t1, hE⟩
theorem up_and1 {t : LT} (ha : PT X a (upT X.K mg W t)) : PW X (.BoolOp .And [a] pos) (upT X.K mg W t) := pw_and1 ha
theorem up_or1 {t : LT} (ha : PT X a (upT X.K mg W t)) : PW X (.BoolOp .Or [a] pos) (upT X.K mg W t) := pw_or1 ha
theorem up_and {rest : List Expr} {t u : LT} (ha : PT X a (upT X.K mg W t)) (hb : PW X (.BoolOp .And (b :: rest) pos) (upT X.K mg W u)) :
    PW X (.BoolOp .And (a :: b :: rest) pos) (upT X.K mg W fun env st Q E => t env st (fun k s => IteB k (u env s Q E) (Q false s)) E) := by
  refine (pw_and ha hb).imp fun σ H Q ⟨ω, env, st, Qd, Ed, R, t, hQ, hE⟩ => ?_
  refine ⟨ω, env, st, _, Ed, R, t, fun k s1 ω1 H1 e1 R1 t1 => ?_, hE⟩
  cases k with
  | true => exact ⟨ω1, env, s1, _, Ed, R1, t1.1 rfl, fun b s2 ω2 H2 e2 R2 q => hQ b s2 ω2 H2 (e1.trans e2) R2 q, hE.mono e1⟩
  | false => exact hQ false s1 ω1 H1 e1 R1 (t1.2 rfl)
theorem up_or {rest : List Expr} {t u : LT} (ha : PT X a (upT X.K mg W t)) (hb : PW X (.BoolOp .Or (b :: rest) pos) (upT X.K mg W u)) :
    PW X (.BoolOp .Or (a :: b :: rest) pos) (upT X.K mg W fun env st Q E => t env st (fun k s => IteB k (Q true s) (u env s Q E)) E) := by
  refine (pw_or ha hb).imp fun σ H Q ⟨ω, env, st, Qd, Ed, R, t, hQ, hE⟩ => ?_
  refine ⟨ω, env, st, _, Ed, R, t, fun k s1 ω1 H1 e1 R1 t1 => ?_, hE⟩
  cases k with
  | true => exact hQ true s1 ω1 H1 e1 R1 (t1.1 rfl)
  | false => exact ⟨ω1, env, s1, _, Ed, R1, t1.2 rfl, fun b s2 ω2 H2 e2 R2 q => hQ b s2 ω2 H2 (e1.trans e2) R2 q, hE.mono e1⟩
/-- what a comparison gives, as a Bool -/
def asB (Q : Bool → Prop) : D → Prop
  | .bl b => Q b
  | _ => False
theorem up_tcmp {op : CmpOp} {r : R2} {f : DSto → Va → Va → (D → Prop) → Prop} (ho : OpR X (compareOp op) r) (hl : Lift2 X.K mg r f) (ha : PE X a (upE X.K mg W ta)) (hb : PE X b (upE X.K mg W tb)) (hm : behindInMarks op b = false) :
    PT X (.Compare a [op] [b] pos) (upT X.K mg W fun env st Q E => ta env st (fun x s1 => tb env s1 (fun y s2 => f s2 x y (asB fun k => Q k s2)) E) E) := by
  refine (pt_cmpR ho ha hb hm).imp fun σ H Q ⟨ω, env, st, Qd, Ed, R, t, hQ, hE⟩ => ?_
  refine ⟨ω, env, st, _, Ed, R, t, fun x s1 ω1 H1 v e1 R1 r1 t1 => ?_, hE⟩
  refine ⟨ω1, env, s1, _, Ed, R1, t1, fun y s2 ω2 H2 u e2 R2 r2 t2 => ?_, hE.mono e1⟩
  refine hl ω2 H2 σ env s2 v u x y _ _ R2 (r1.mono e2 R1.w) r2 t2 fun d H' w s rw q => ?_
  cases d with
  | bl k =>
    cases rw
    exact ⟨k, rfl, hQ k s2 ω2 H' ((e1.trans e2).trans (.of_same s)) (R2.same s) q⟩
  | _ => exact q.elim
/-- a < b < c -/
theorem up_tchain {op op' : CmpOp} {r r' : R2} {f f' : DSto → Va → Va → (D → Prop) → Prop} (ho : OpR X (compareOp op) r) (ho' : OpR X (compareOp op') r') (hl : Lift2 X.K mg r f) (hl' : Lift2 X.K mg r' f') (ha : PE X a (upE X.K mg W ta)) (hb : PE X b (upE X.K mg W tb))
    (hc : PE X c (upE X.K mg W tc)) (hm : lastMarks [op, op'] [b, c] = false) :
    PT X (.Compare a [op, op'] [b, c] pos) (upT X.K mg W fun env st Q E => ta env st (fun x s1 => tb env s1 (fun y s2 => f s2 x y (asB fun k => IteB k (tc env s2 (fun z s3 => f' s3 y z (asB fun j => Q j s3)) E) (Q false s2))) E) E) := by
  refine (pt_chain ho ho' ha hb hc hm).imp fun σ H Q ⟨ω, env, st, Qd, Ed, R, t, hQ, hE⟩ => ?_
  refine ⟨ω, env, st, _, Ed, R, t, fun x s1 ω1 H1 v e1 R1 r1 t1 => ?_, hE⟩
  refine ⟨ω1, env, s1, _, Ed, R1, t1, fun y s2 ω2 H2 u e2 R2 r2 t2 => ?_, hE.mono e1⟩
  refine hl ω2 H2 σ env s2 v u x y _ _ R2 (r1.mono e2 R1.w) r2 t2 fun d H' w s rw q => ?_
  cases d with
  | bl k =>
    cases rw
    refine ⟨k, rfl, ?_⟩
    cases k with
    | false => exact ⟨false, rfl, hQ false s2 ω2 H' ((e1.trans e2).trans (.of_same s)) (R2.same s) (q.2 rfl)⟩
    | true =>
      refine ⟨ω2, env, s2, _, Ed, R2.same s, q.1 rfl, fun z s3 ω3 H3 u3 e3 R3 r3 t3 => ?_, ((hE.mono e1).mono e2).mono (.of_same s)⟩
      refine hl' ω3 H3 σ env s3 u u3 y z _ _ R3 ((r2.mono (.of_same s) R2.w).mono e3 (R2.w.same s)) r3 t3 fun d H4 w s4 rw q => ?_
      cases d with
      | bl j =>
        cases rw
        exact ⟨j, rfl, hQ j s3 ω3 H4 ((((e1.trans e2).trans (.of_same s)).trans e3).trans (.of_same s4)) (R3.same s4) q⟩
      | _ => exact q.elim
  | _ => exact q.elim
/-- x if t else y -/
theorem up_ifx {t : LT} (hc : PT X c (upT X.K mg W t)) (ha : PE X a (upE X.K mg W ta)) (hb : PE X b (upE X.K mg W tb)) :
    PE X (.IfExp c a b pos) (upE X.K mg W fun env st Q E => t env st (fun k s => IteB k (ta env s Q E) (tb env s Q E)) E) := by
  refine (pe_ifExp hc ha hb).imp fun σ H Q ⟨ω, env, st, Qd, Ed, R, t, hQ, hE⟩ => ?_
  refine ⟨ω, env, st, _, Ed, R, t, fun k s1 ω1 H1 e1 R1 t1 => ?_, hE⟩
  cases k with
  | true => exact ⟨ω1, env, s1, _, Ed, R1, t1.1 rfl, fun x s2 ω2 H2 v e2 R2 r q => hQ x s2 ω2 H2 v (e1.trans e2) R2 r q, hE.mono e1⟩
  | false => exact ⟨ω1, env, s1, _, Ed, R1, t1.2 rfl, fun x s2 ω2 H2 v e2 R2 r q => hQ x s2 ω2 H2 v (e1.trans e2) R2 r q, hE.mono e1⟩
/-- x and y, x or y, not x as values -/
theorem up_vone {op : BoolOp} (ha : PE X a (upE X.K mg W ta)) : PE X (.BoolOp op [a] pos) (upE X.K mg W ta) := pe_one ha
theorem up_vand {rest : List Expr} (ha : PE X a (upE X.K mg W ta)) (hb : PE X (.BoolOp .And (b :: rest) pos) (upE X.K mg W tb)) :
    PE X (.BoolOp .And (a :: b :: rest) pos) (upE X.K mg W fun env st Q E => ta env st (fun x s => truX s x fun k => IteB k (tb env s Q E) (Q x s)) E) := by
  refine (pe_andT ha hb).imp fun σ H Q ⟨ω, env, st, Qd, Ed, R, t, hQ, hE⟩ => ?_
  refine ⟨ω, env, st, _, Ed, R, t, fun x s1 ω1 H1 v e1 R1 r1 t1 => ?_, hE⟩
  obtain ⟨k, h1, h2⟩ := truX_rep R1 r1 t1
  refine ⟨k, h1, ?_⟩
  cases k with
  | true => exact ⟨ω1, env, s1, _, Ed, R1, h2.1 rfl, fun x s2 ω2 H2 v e2 R2 r q => hQ x s2 ω2 H2 v (e1.trans e2) R2 r q, hE.mono e1⟩
  | false => exact hQ x s1 ω1 H1 v e1 R1 r1 (h2.2 rfl)
theorem up_vor {rest : List Expr} (ha : PE X a (upE X.K mg W ta)) (hb : PE X (.BoolOp .Or (b :: rest) pos) (upE X.K mg W tb)) :
    PE X (.BoolOp .Or (a :: b :: rest) pos) (upE X.K mg W fun env st Q E => ta env st (fun x s => truX s x fun k => IteB k (Q x s) (tb env s Q E)) E) := by
  refine (pe_orT ha hb).imp fun σ H Q ⟨ω, env, st, Qd, Ed, R, t, hQ, hE⟩ => ?_
  refine ⟨ω, env, st, _, Ed, R, t, fun x s1 ω1 H1 v e1 R1 r1 t1 => ?_, hE⟩
  obtain ⟨k, h1, h2⟩ := truX_rep R1 r1 t1
  refine ⟨k, h1, ?_⟩
  cases k with
  | true => exact hQ x s1 ω1 H1 v e1 R1 r1 (h2.1 rfl)
  | false => exact ⟨ω1, env, s1, _, Ed, R1, h2.2 rfl, fun x s2 ω2 H2 v e2 R2 r q => hQ x s2 ω2 H2 v (e1.trans e2) R2 r q, hE.mono e1⟩
theorem up_vnot (ha : PE X a (upE X.K mg W ta)) : PE X (.UnaryOp .Not a pos) (upE X.K mg W fun env st Q E => ta env st (fun x s => truX s x fun k => Q (.dat (.bl (!k))) s) E) := by
  refine (pe_notT ha).imp fun σ H Q ⟨ω, env, st, Qd, Ed, R, t, hQ, hE⟩ => ?_
  refine ⟨ω, env, st, _, Ed, R, t, fun x s1 ω1 H1 v e1 R1 r1 t1 => ?_, hE⟩
  obtain ⟨k, h1, h2⟩ := truX_rep R1 r1 t1
  exact ⟨k, h1, hQ _ s1 ω1 H1 _ e1 R1 (.dat (.bl _)) h2⟩
end

/-! ### targets -/
abbrev LG := Va → DEnv → DSto → (DEnv → DSto → Prop) → Prop
abbrev LGs := List D → DEnv → DSto → (DEnv → DSto → Prop) → Prop
section
variable (K : PySem.W.Frag) (mg : Str → Option Value)
def upG (t : LG) : TG := fun v σ H Q => ∃ ω env st x Qd, RepS K mg ω H σ env st ∧ RepV K mg ω H v x ∧ t x env st Qd ∧ (∀ env' st' ω' H' σ', Ext ω H ω' H' → RepS K mg ω' H' σ' env' st' → Qd env' st' → Q σ' H')
def upGs (t : LGs) : TGs := fun vs σ H Q => ∃ ω env st ds Qd, RepS K mg ω H σ env st ∧ Reps K mg ω H vs ds ∧ t ds env st Qd ∧ (∀ env' st' ω' H' σ', Ext ω H ω' H' → RepS K mg ω' H' σ' env' st' → Qd env' st' → Q σ' H')
end
theorem _root_.L2.PG.imp {X : Cx} {e : Expr} {t t' : TG} (h : PG X e t) (i : ∀ v σ H Q, t' v σ H Q → t v σ H Q) : PG X e t' := ⟨fun pins s σ H v u Q I r q => h.run pins s σ H v u Q I r (i v σ H Q q)⟩
theorem _root_.L2.PGs.imp {X : Cx} {e : List Expr} {t t' : TGs} (h : PGs X e t) (i : ∀ v σ H Q, t' v σ H Q → t v σ H Q) : PGs X e t' := ⟨fun pins s σ H v u Q I r q => h.run pins s σ H v u Q I r (i v σ H Q q)⟩
section
variable {X : Cx} {mg : Str → Option Value} {pos : Pos}
theorem up_gname {i : Nat} {x : Str} (hN : X.N.Nodup) (hi : X.N[i]? = some x) (hx : Loc X.env.scope x) (hf : X.fn x = true ∨ X.env.scope.names.lookup x = some .local) :
    PG X (.Name x pos) (upG X.K mg fun v env st Q => Q (env.set i (some v)) st) := by
  refine (pg_name hN hi hx hf).imp fun v σ H Q ⟨ω, env, st, x, Qd, R, r, t, hQ⟩ => ?_
  exact hQ _ st ω H _ (.refl _ _) ⟨R.w, R.e.set r i, R.s⟩ t
theorem up_gnil : PGs X [] (upGs X.K mg fun ds env st Q => match ds with | [] => Q env st | _ :: _ => False) := by
  refine pgs_nil.imp fun v σ H Q ⟨ω, env, st, ds, Qd, R, r, t, hQ⟩ => ?_
  cases r with
  | nil => exact ⟨rfl, hQ _ st ω H _ (.refl _ _) R t⟩
  | cons _ _ => exact t.elim
theorem up_gcons {e : Expr} {es : List Expr} {t : LG} {u : LGs} (h1 : PG X e (upG X.K mg t)) (h2 : PGs X es (upGs X.K mg u)) (hs : assignEach (e :: es) X.env = (false, assign e X.env) :: assignEach es X.env) :
    PGs X (e :: es) (upGs X.K mg fun ds env st Q => match ds with | [] => False | d :: ds => t (.dat d) env st fun env1 st1 => u ds env1 st1 Q) := by
  refine (pgs_cons h1 h2 (by rw [hs] <;> rfl)).imp fun v σ H Q ⟨ω, env, st, ds, Qd, R, r, t, hQ⟩ => ?_
  cases r with
  | nil => exact t.elim
  | cons r1 r2 =>
    refine ⟨_, _, rfl, ω, env, st, _, _, R, .dat r1, t, fun env1 st1 ω1 H1 σ1 e1 R1 t1 => ?_⟩
    exact ⟨ω1, env1, st1, _, _, R1, r2.mono e1 R.w, t1, fun env2 st2 ω2 H2 σ2 e2 R2 q => hQ env2 st2 ω2 H2 σ2 (e1.trans e2) R2 q⟩
theorem _root_.L2.PG.or {e : Expr} {t u : TG} (h1 : PG X e t) (h2 : PG X e u) : PG X e (fun v σ H Q => t v σ H Q ∨ u v σ H Q) := ⟨fun pins s σ H v x Q I r q => q.elim (h1.run pins s σ H v x Q I r) (h2.run pins s σ H v x Q I r)⟩
/-- a, b = t, a tuple or a list -/
theorem up_gseq {es : List Expr} {k : Nat} {t : LGs} {n : Nat} (hc : X.calm = true) (h : PGs X es (upGs X.K mg t)) (hn : (assignEach es X.env).length = n) (hst : (assignEach es X.env).findIdx? (·.1) = none) :
    PG X (.Tuple es k pos) (upG X.K mg fun v env st Q => ∃ ds, seqX st v = some ds ∧ ds.length = n ∧ t ds env st Q) := by
  refine ((pg_tup (n := n) hc h hn hst).or (pg_lst (n := n) hc h hn hst)).imp fun v σ H Q ⟨ω, env, st, x, Qd, R, r, t, hQ⟩ => ?_
  obtain ⟨ds, hds, t⟩ := t
  obtain ⟨a, xs, rfl, hs, rs⟩ := seqX_rep R r hds
  rcases hs with hs | hs
  · exact .inr ⟨a, xs, rfl, hs, rs.length.trans t.1, ω, env, st, ds, Qd, R, rs, t.2, hQ⟩
  · exact .inl ⟨a, xs, rfl, hs, rs.length.trans t.1, ω, env, st, ds, Qd, R, rs, t.2, hQ⟩
end

/-! ### statements -/
structure EndsD where
  nx : DEnv → DSto → Prop
  rt : D → Prop
  bk : DEnv → DSto → Prop
  ct : DEnv → DSto → Prop
  ex : Exn → DEnv → DSto → Prop
abbrev LS := EndsD → DEnv → DSto → Prop
section
variable (K : PySem.W.Frag) (mg : Str → Option Value)
structure EndsOk (W : WX) (ω : Wd) (H : Hp) (De : EndsD) (D : Ends) : Prop where
  nx : ∀ env st ω' H' σ, Ext ω H ω' H' → RepS K mg ω' H' σ env st → De.nx env st → D.nx σ H'
  bk : ∀ env st ω' H' σ, Ext ω H ω' H' → RepS K mg ω' H' σ env st → De.bk env st → D.bk σ H'
  ct : ∀ env st ω' H' σ, Ext ω H ω' H' → RepS K mg ω' H' σ env st → De.ct env st → D.ct σ H'
  rt : ∀ d ω' H' v, Ext ω H ω' H' → WOk ω' H' → Rep K mg ω' H' v d → De.rt d → D.rt v H'
  ex : ∀ ex env st ω' H' σ cls dx, Ext ω H ω' H' → RepS K mg ω' H' σ env st → RepX K mg ω' H' cls dx ex → De.ex ex env st → W cls dx σ H'
def upS (W : WX) (t : LS) : TS := fun D σ H => ∃ ω env st De, RepS K mg ω H σ env st ∧ t De env st ∧ EndsOk K mg W ω H De D
end
section
variable {K : PySem.W.Frag} {mg : Str → Option Value} {W : WX} {ω ω' : Wd} {H H' : Hp} {De : EndsD} {Ds : Ends}
theorem EndsOk.mono (h : EndsOk K mg W ω H De Ds) (e : Ext ω H ω' H') : EndsOk K mg W ω' H' De Ds :=
  ⟨fun env st ω2 H2 σ e2 => h.nx env st ω2 H2 σ (e.trans e2), fun env st ω2 H2 σ e2 => h.bk env st ω2 H2 σ (e.trans e2), fun env st ω2 H2 σ e2 => h.ct env st ω2 H2 σ (e.trans e2), fun d ω2 H2 v e2 => h.rt d ω2 H2 v (e.trans e2), fun ex env st ω2 H2 σ cls dx e2 => h.ex ex env st ω2 H2 σ cls dx (e.trans e2)⟩
theorem EndsOk.upX (h : EndsOk K mg W ω H De Ds) (σ : St) (env : DEnv) : upX K mg W ω H σ env (fun ex s => De.ex ex env s) := fun ex st' ω' H' cls dx e R r q => h.ex ex env st' ω' H' σ cls dx e R r q
end
section
variable {X : Cx} {W : WX} {mg : Str → Option Value} {pos : Pos}
theorem up_snil : PSs X [] (upS X.K mg W fun De env st => De.nx env st) := pss_nil.imp fun D σ H ⟨ω, env, st, De, R, t, hE⟩ => hE.nx env st ω H σ (.refl _ _) R t
theorem up_scons {s : Stmt} {rest : List Stmt} {t u : LS} (h1 : PS X s (upS X.K mg W t)) (h2 : PSs X rest (upS X.K mg W u)) : PSs X (s :: rest) (upS X.K mg W fun De env st => t { De with nx := u De } env st) := by
  refine (pss_cons h1 h2).imp fun D σ H ⟨ω, env, st, De, R, t, hE⟩ => ?_
  refine ⟨ω, env, st, _, R, t, ⟨fun env1 st1 ω1 H1 σ1 e1 R1 q => ?_, hE.bk, hE.ct, hE.rt, hE.ex⟩⟩
  exact ⟨ω1, env1, st1, De, R1, q, hE.mono e1⟩
theorem up_pass : PS X (.Pass pos) (upS X.K mg W fun De env st => De.nx env st) := ps_pass.imp fun D σ H ⟨ω, env, st, De, R, t, hE⟩ => hE.nx env st ω H σ (.refl _ _) R t
theorem up_break : PS X (.Break pos) (upS X.K mg W fun De env st => De.bk env st) := ps_break.imp fun D σ H ⟨ω, env, st, De, R, t, hE⟩ => hE.bk env st ω H σ (.refl _ _) R t
theorem up_continue : PS X (.Continue pos) (upS X.K mg W fun De env st => De.ct env st) := ps_continue.imp fun D σ H ⟨ω, env, st, De, R, t, hE⟩ => hE.ct env st ω H σ (.refl _ _) R t
theorem up_expr {e : Expr} {te : LE} (he : PE X e (upE X.K mg W te)) (hs : swapsWith e none pos.line X.env = pure false) : PS X (.Expr e pos) (upS X.K mg W fun De env st => te env st (fun _ s => De.nx env s) (fun ex s => De.ex ex env s)) := by
  refine (ps_expr he hs).imp fun D σ H ⟨ω, env, st, De, R, t, hE⟩ => ?_
  exact ⟨ω, env, st, _, _, R, t, fun x s1 ω1 H1 v e1 R1 r1 t1 => hE.nx env s1 ω1 H1 σ e1 R1 t1, hE.upX σ env⟩
theorem up_ret {e : Expr} {te : LE} (he : PE X e (upE X.K mg W te)) : PS X (.Return (some e) pos) (upS X.K mg W fun De env st => te env st (fun x s => use x s fun d _ => De.rt d) (fun ex s => De.ex ex env s)) := by
  refine (ps_ret he).imp fun D σ H ⟨ω, env, st, De, R, t, hE⟩ => ?_
  refine ⟨ω, env, st, _, _, R, t, fun x s1 ω1 H1 v e1 R1 r1 t1 => ?_, hE.upX σ env⟩
  obtain ⟨d, s2, ω2, e2, R2, r2, t2⟩ := use_rep R1 r1 t1
  exact hE.rt d ω2 H1 v (e1.trans e2) R2.w r2 t2
theorem up_retN : PS X (.Return none pos) (upS X.K mg W fun De env st => De.rt .non) := ps_retN.imp fun D σ H ⟨ω, env, st, De, R, t, hE⟩ => hE.rt .non ω H .non (.refl _ _) R.w .non t
theorem up_if {c : Expr} {a b : List Stmt} {tc : LT} {t u : LS} (hc : PT X c (upT X.K mg W tc)) (ha : PSs X a (upS X.K mg W t)) (hb : PSs X b (upS X.K mg W u)) :
    PS X (.If c a b pos) (upS X.K mg W fun De env st => tc env st (fun k s => IteB k (t De env s) (u De env s)) (fun ex s => De.ex ex env s)) := by
  refine (ps_if hc ha hb).imp fun D σ H ⟨ω, env, st, De, R, t, hE⟩ => ?_
  refine ⟨ω, env, st, _, _, R, t, fun k s1 ω1 H1 e1 R1 t1 => ?_, hE.upX σ env⟩
  cases k with
  | true => exact ⟨ω1, env, s1, De, R1, t1.1 rfl, hE.mono e1⟩
  | false => exact ⟨ω1, env, s1, De, R1, t1.2 rfl, hE.mono e1⟩
theorem up_asg {tg e : Expr} {te : LE} {g : LG} (he : PE X e (upE X.K mg W te)) (hg : PG X tg (upG X.K mg g)) (hs : swapsWithSole [tg] e pos.line X.env = pure false) (hw : swappedStores [tg] e X.env = pure none) (h1 : (assignEach [tg] X.env).map (·.2) = [assign tg X.env]) :
    PS X (.Assign [tg] e pos) (upS X.K mg W fun De env st => te env st (fun x s => g x env s De.nx) (fun ex s => De.ex ex env s)) := by
  refine (ps_asg he hg hs hw h1).imp fun D σ H ⟨ω, env, st, De, R, t, hE⟩ => ?_
  refine ⟨ω, env, st, _, _, R, t, fun x s1 ω1 H1 v e1 R1 r1 t1 => ?_, hE.upX σ env⟩
  exact ⟨ω1, env, s1, x, _, R1, r1, t1, fun env2 st2 ω2 H2 σ2 e2 R2 q => hE.nx env2 st2 ω2 H2 σ2 (e1.trans e2) R2 q⟩
/-- x, y = a, b: plain local names -/
theorem up_par {i j : Nat} {x y : Str} {a b : Expr} {t : LA} {px py pt : Pos} {kt k2 : Nat} {pt2 : Pos} (hc : X.calm = true) (hN : X.N.Nodup) (hi : X.N[i]? = some x) (hj : X.N[j]? = some y) (hij : i ≠ j) (hlx : X.env.kindOf x = some .local) (hly : X.env.kindOf y = some .local)
    (ha : PA X [a, b] (upA X.K mg W t)) (hsw : swappedStores [.Tuple [.Name x px, .Name y py] kt pt] (.Tuple [a, b] k2 pt2) X.env = pure (some [x, y])) :
    PS X (.Assign [.Tuple [.Name x px, .Name y py] kt pt] (.Tuple [a, b] k2 pt2) pos) (upS X.K mg W fun De env st => t env st (fun xs s => match xs with | [u, v] => De.nx ((env.set i (some u)).set j (some v)) s | _ => False) (fun ex s => De.ex ex env s)) := by
  refine (ps_par hc hN hi hj hij hlx hly ha hsw).imp fun D σ H ⟨ω, env, st, De, R, t, hE⟩ => ?_
  refine ⟨ω, env, st, _, _, R, t, fun xs s1 ω1 H1 vs e1 R1 r1 t1 => ?_, hE.upX σ env⟩
  split at t1
  · cases r1 with
    | cons r1 r2 =>
      cases r2 with
      | cons r2 r3 =>
        cases r3
        exact ⟨_, _, rfl, hE.nx _ s1 ω1 H1 _ e1 ⟨R1.w, (R1.e.set r1 i).set r2 j, R1.s⟩ t1⟩
  · exact t1.elim
theorem up_while {c : Expr} {body : List Stmt} {tc : LT} {tb : LS} (hp : PassesOwn (model X.prog X.w) X.A X.env X.xe) (hc : PT X c (upT X.K mg W tc)) (hb : PSs X body (upS X.K mg W tb)) :
    PS X (.While c body [] pos) (upS X.K mg W fun De env st => ∃ I : Nat → DEnv → DSto → Prop, (∃ m, I m env st) ∧ ∀ m env st, I m env st → tc env st (fun k s => IteB k
      (tb { De with nx := fun env' st' => ∃ m', m' < m ∧ I m' env' st', ct := fun env' st' => ∃ m', m' < m ∧ I m' env' st', bk := De.nx } env s) (De.nx env s)) (fun ex s => De.ex ex env s)) := by
  refine (ps_while hp hc hb).imp fun D σ H ⟨ω, env, st, De, R, ⟨I, ⟨m0, h0⟩, hs⟩, hE⟩ => ?_
  refine ⟨fun m σ2 H2 => ∃ (ω2 : Wd) (env2 : DEnv) (st2 : DSto), Ext ω H ω2 H2 ∧ RepS X.K mg ω2 H2 σ2 env2 st2 ∧ I m env2 st2, ⟨m0, ω, env, st, .refl _ _, R, h0⟩, ?_⟩
  rintro m σ2 H2 ⟨ω2, env2, st2, e2, R2, i2⟩
  refine ⟨ω2, env2, st2, _, _, R2, hs m env2 st2 i2, fun k s3 ω3 H3 e3 R3 t3 => ?_, (hE.mono e2).upX σ2 env2⟩
  cases k with
  | false => exact hE.nx env2 s3 ω3 H3 σ2 (e2.trans e3) R3 (t3.2 rfl)
  | true =>
    refine ⟨fun σ4 H4 => ∃ (ω4 : Wd) (env4 : DEnv) (st4 : DSto), Ext ω H ω4 H4 ∧ RepS X.K mg ω4 H4 σ4 env4 st4 ∧ ∃ m', m' < m ∧ I m' env4 st4, fun σ4 H4 ⟨ω4, env4, st4, e4, R4, m', l, i4⟩ => ⟨m', l, ω4, env4, st4, e4, R4, i4⟩, ω3, env2, s3, _, R3, t3.1 rfl, ?_⟩
    have E3 := hE.mono (e2.trans e3)
    exact ⟨fun env4 st4 ω4 H4 σ4 e4 R4 q => ⟨ω4, env4, st4, (e2.trans e3).trans e4, R4, q⟩, fun env4 st4 ω4 H4 σ4 e4 R4 q => E3.nx env4 st4 ω4 H4 σ4 e4 R4 q, fun env4 st4 ω4 H4 σ4 e4 R4 q => ⟨ω4, env4, st4, (e2.trans e3).trans e4, R4, q⟩, E3.rt, E3.ex⟩
end
end Pd

/-! Pd: what is walked; for; comprehensions. -/
namespace Pd
open PySem L2

/-- a walk over things that stand: gd tells the own list that is walked (it must stand as it was) -/
def guard (gd : Option Nat) (items : List D) (st : DSto) : Prop := match gd with
  | none => True
  | some n => (st[n]?).map (·.2) = some items
structure ItOk (K : PySem.W.Frag) (mg : Str → Option Value) (J : It) (items : List D) (ω0 : Wd) (H0 : Hp) (gd : Option Nat) : Prop where
  go : ∀ i ω H σ env st, ExtP ω0 H0 ω H → RepS K mg ω H σ env st → guard gd items st → i < items.length → J.go i H
  yld : ∀ i ω H σ env st x H', ExtP ω0 H0 ω H → RepS K mg ω H σ env st → guard gd items st → i < items.length → J.yld i H x H' → ∃ d, items[i]? = some d ∧ Same H H' ∧ Rep K mg ω H' x d
  stop : ∀ ω H σ env st, ExtP ω0 H0 ω H → RepS K mg ω H σ env st → guard gd items st → J.stop items.length H
abbrev LI := DEnv → DSto → (List D → Option Nat → DSto → Prop) → XD → Prop
def upI (K : PySem.W.Frag) (mg : Str → Option Value) (W : WX) (t : LI) : TI := fun σ H R => ∃ ω env st Qd Ed, RepS K mg ω H σ env st ∧ t env st Qd Ed ∧
  (∀ items gd st' ω' H' J, Ext ω H ω' H' → RepS K mg ω' H' σ env st' → ItOk K mg J items ω' H' gd → guard gd items st' → Qd items gd st' → R J H') ∧ upX K mg W ω H σ env Ed
theorem _root_.L2.PI.imp {X : Cx} {tg e : Expr} {t t' : TI} (h : PI X tg e t) (i : ∀ σ H Q, t' σ H Q → t σ H Q) : PI X tg e t' := ⟨fun pins s σ H Q I q => h.run pins s σ H Q I (i σ H Q q)⟩

section
variable {K : PySem.W.Frag} {mg : Str → Option Value} {ω : Wd} {H : Hp} {σ : St} {env : DEnv} {st : DSto}
/-- which own list a value is -/
def gdOf : Va → Option Nat
  | .loc n => some n
  | .dat _ => none
theorem get_reps {xs : List V} {ds : List D} (r : Reps K mg ω H xs ds) {i : Nat} (h : i < ds.length) : ∃ v, xs[i]? = some v := let ⟨v, a, _⟩ := r.get (List.getElem?_eq_getElem h); ⟨v, a⟩
theorem sqL_lst {a : Addr} {xs ys : List V} (h : H a = some (.lst xs)) (w : Wd) : SqL K H a xs := SqL.of h
/-- an own or a standing list -/
theorem itOk_lst {x : Va} {v : V} (R : RepS K mg ω H σ env st) (r : RepV K mg ω H v x) {ds : List D} (h : lstX st x = some ds) : ∃ a, v = .ref a ∧ (∃ xs, SqL K H a xs) ∧ guard (gdOf x) ds st ∧ ItOk K mg (Itl K a) ds ω H (gdOf x) := by
  -- at each later time: the list at a is as told
  have key : ∃ a, v = .ref a ∧ (∃ xs, SqL K H a xs) ∧ guard (gdOf x) ds st ∧ ∀ ω' H' σ' env' st', ExtP ω H ω' H' → RepS K mg ω' H' σ' env' st' → guard (gdOf x) ds st' → ∃ xs, H' a = some (.lst xs) ∧ Reps K mg ω' H' xs ds := by
    cases r with
    | dat r =>
      cases r <;> simp only [lstX] at h <;> first | (cases h; done) | skip
      rename_i a xs ds' h1 h2 h3
      cases h
      refine ⟨a, rfl, ⟨xs, SqL.of h1⟩, trivial, fun ω' H' σ' env' st' e R' _ => ⟨xs, (e.keep a _ h1 fun z => h2 (mem_busy.mpr (.inl z))).1, h3.monoP e R.w⟩⟩
    | loc e0 =>
      rename_i a n
      simp only [lstX] at h
      obtain ⟨a', xs, q1, q2, q3⟩ := lstX_rep R (.loc e0) (show lstX st (.loc n) = some ds from h)
      cases q1
      refine ⟨a, rfl, ⟨xs, SqL.of q2⟩, h, fun ω' H' σ' env' st' e R' g => ?_⟩
      obtain ⟨a', ys, p1, p2, p3⟩ := lstX_rep R' ((RepV.loc e0).monoP e R.w) (show lstX st' (.loc n) = some ds from g)
      cases p1
      exact ⟨ys, p2, p3⟩
  obtain ⟨a, e, s, g, k⟩ := key
  refine ⟨a, e, s, g, ⟨fun i ω' H' σ' env' st' e' R' g' hi => ?_, fun i ω' H' σ' env' st' x' H2 e' R' g' hi y => ?_, fun ω' H' σ' env' st' e' R' g' => ?_⟩⟩
  · obtain ⟨xs, p1, p2⟩ := k ω' H' σ' env' st' e' R' g'
    obtain ⟨w, hw⟩ := get_reps p2 hi
    exact ⟨xs, w, SqL.of p1, hw⟩
  · obtain ⟨xs, p1, p2⟩ := k ω' H' σ' env' st' e' R' g'
    obtain ⟨rfl, y⟩ := y
    obtain ⟨d, h1, h2⟩ := p2.getV (y xs (SqL.of p1))
    exact ⟨d, h1, Same.refl _, h2⟩
  · obtain ⟨xs, p1, p2⟩ := k ω' H' σ' env' st' e' R' g'
    exact ⟨xs, SqL.of p1, by rw [p2.length] <;> exact Nat.le_refl _⟩
theorem itOk_tup {a : Addr} {xs : List V} {ds : List D} (w : WOk ω H) (h : SqT K H a xs) (r : Reps K mg ω H xs ds) : ItOk K mg (Itt K a) ds ω H none := by
  refine ⟨fun i ω' H' σ' env' st' e' R' g' hi => ?_, fun i ω' H' σ' env' st' x' H2 e' R' g' hi y => ?_, fun ω' H' σ' env' st' e' R' g' => ?_⟩
  · obtain ⟨v, hv⟩ := get_reps (r.monoP e' w) hi
    exact ⟨xs, v, e'.sqt w h, hv⟩
  · obtain ⟨rfl, y⟩ := y
    obtain ⟨d, h1, h2⟩ := (r.monoP e' w).getV (y xs (e'.sqt w h))
    exact ⟨d, h1, Same.refl _, h2⟩
  · exact ⟨xs, e'.sqt w h, by rw [r.length] <;> exact Nat.le_refl _⟩
end
/-- a list or a tuple, walked -/
def iSeq (K : PySem.W.Frag) (tl : TE) : TI := fun σ H R => tl σ H fun x H1 => ∃ a, x = .ref a ∧ ((∃ xs, SqL K H1 a xs) ∧ R (Itl K a) H1 ∨ (∃ xs, SqT K H1 a xs) ∧ R (Itt K a) H1)
theorem pi_seq {X : Cx} {tg l : Expr} {tl : TE} (hl : PE X l tl) : PI X tg l (iSeq X.K tl) := by
  refine ⟨fun pins s σ H R I h => ?_⟩
  refine thn (hl.run pins s σ H _ I h) fun v s1 ⟨x, H1, I1, r1, q1⟩ => ?_
  obtain ⟨a, e, ⟨⟨xs, hq⟩, q⟩ | ⟨⟨xs, hq⟩, q⟩⟩ := q1
  · subst e
    cases r1
    obtain ⟨its, rv, p, hz⟩ := I1.list hq
    refine PySem.wpAny_pyIter_list p.isList ?_
    refine ⟨s1.heap.objs.size, [s1.heap.objs.size], _, _, H1, rfl, I1.kept (t' := s1.toks) fun b o e => Heap.get?_push_of_some _ e, turn_list a _, ⟨_, Heap.get?_push_size _ rfl, rfl, rfl⟩, fun b hb => ?_, q⟩
    have e : b = s1.heap.objs.size := by simpa using hb
    subst e
    exact I1.fpOk (Nat.le_refl _) (I1.hok.fresh (Nat.le_refl _))
  · subst e
    cases r1
    obtain ⟨its, rv, p, hz⟩ := I1.tuple hq
    refine PySem.wpAny_pyIter_tuple (show s1.heap.IsTuple a its.toArray from p) ?_
    refine ⟨s1.heap.objs.size, [s1.heap.objs.size], _, _, H1, rfl, I1.kept (t' := s1.toks) fun b o e => Heap.get?_push_of_some _ e, turn_tuple a _, ⟨_, Heap.get?_push_size _ rfl, rfl, rfl⟩, fun b hb => ?_, q⟩
    have e : b = s1.heap.objs.size := by simpa using hb
    subst e
    exact I1.fpOk (Nat.le_refl _) (I1.hok.fresh (Nat.le_refl _))
section
variable {X : Cx} {W : WX} {mg : Str → Option Value}
theorem up_iseq {tg l : Expr} {tl : LE} (hl : PE X l (upE X.K mg W tl)) : PI X tg l (upI X.K mg W fun env st Q E => tl env st (fun x s => ∃ ds, seqX s x = some ds ∧ Q ds (gdOf x) s) E) := by
  refine (pi_seq hl).imp fun σ H R ⟨ω, env, st, Qd, Ed, RS, t, hQ, hE⟩ => ?_
  refine ⟨ω, env, st, _, Ed, RS, t, fun x s1 ω1 H1 v e1 R1 r1 t1 => ?_, hE⟩
  obtain ⟨ds, hds, t1⟩ := t1
  · have lst : lstX s1 x = some ds → ∃ a, v = .ref a ∧ ((∃ xs, SqL X.K H1 a xs) ∧ R (Itl X.K a) H1 ∨ (∃ xs, SqT X.K H1 a xs) ∧ R (Itt X.K a) H1) := fun h => by
      obtain ⟨a, h1, h2, h3, h4⟩ := itOk_lst R1 r1 h
      exact ⟨a, h1, .inl ⟨h2, hQ ds (gdOf x) s1 ω1 H1 _ e1 R1 h4 h3 t1⟩⟩
    cases r1 with
    | loc e => exact lst hds
    | dat r =>
      cases r <;> simp only [seqX] at hds <;> first | (cases hds; done) | skip
      · cases hds
        rename_i a xs h1 h2
        exact ⟨a, rfl, .inr ⟨⟨xs, h1⟩, hQ _ none s1 ω1 H1 _ e1 R1 (itOk_tup R1.w h1 h2) trivial t1⟩⟩
      · cases hds
        exact lst rfl
/-- a text, sign by sign -/
def signs (x : Str) : List D := x.cps.toList.map fun c => .str ⟨#[c]⟩
theorem up_istr {tg l : Expr} {tl : LE} (hl : PE X l (upE X.K mg W tl)) : PI X tg l (upI X.K mg W fun env st Q E => tl env st (fun x s => match x with | .dat (.str z) => Q (signs z) none s | _ => False) E) := by
  refine (pi_str hl).imp fun σ H R ⟨ω, env, st, Qd, Ed, RS, t, hQ, hE⟩ => ?_
  refine ⟨ω, env, st, _, Ed, RS, t, fun x s1 ω1 H1 v e1 R1 r1 t1 => ?_, hE⟩
  split at t1
  · rename_i z
    cases r1 with
    | dat r =>
      cases r
      have hl : (signs z).length = z.cps.size := by unfold signs; simp
      refine ⟨z, rfl, hQ _ none s1 ω1 H1 _ e1 R1 ⟨fun i ω' H' σ' env' st' e' R' g' hi => by rw [hl] at hi; exact hi, fun i ω' H' σ' env' st' x' H2 e' R' g' hi y => ?_, fun ω' H' σ' env' st' e' R' g' => by rw [hl]; exact Nat.le_refl _⟩ trivial t1⟩
      obtain ⟨rfl, c, hc, rfl⟩ := y
      refine ⟨.str ⟨#[c]⟩, ?_, Same.refl _, .str _⟩
      unfold signs
      rw [List.getElem?_map, show z.cps.toList[i]? = some c by simpa using hc]
      rfl
  · exact t1.elim
/-- the numbers of a range -/
def rangeD (lo hi : Int) : List D := (List.range (hi - lo).toNat).map fun i => .int (lo + (i : Nat))
theorem itOk_rng {K : PySem.W.Frag} {ω : Wd} {H : Hp} {lo : Int} {n : Nat} : ItOk K mg (Itr lo n) ((List.range n).map fun i => D.int (lo + (i : Nat))) ω H none := by
  have hl : ((List.range n).map fun i => D.int (lo + (i : Nat))).length = n := by simp
  refine ⟨fun i ω' H' σ' env' st' e' R' g' hi => by rw [hl] at hi; exact hi, fun i ω' H' σ' env' st' x' H2 e' R' g' hi y => ?_, fun ω' H' σ' env' st' e' R' g' => by rw [hl]; exact Nat.le_refl _⟩
  rw [hl] at hi
  obtain ⟨rfl, rfl⟩ := y
  exact ⟨.int (lo + (i : Nat)), by rw [List.getElem?_map, List.getElem?_range hi] <;> rfl, Same.refl _, .int _⟩
def RngOk (i : Int) : Prop := -(2 ^ 62) ≤ i ∧ i < 2 ^ 62
theorem up_irange1 {tg a : Expr} {t : LA} {p pos : Pos} (hg : Gl X "range") (hm : X.mg "range" = none) (ha : PA X [a] (upA X.K mg W t)) (hs : starEach [a] X.env = [(false, eval a X.env)]) :
    PI X tg (.Call (.Name "range" p) [a] [] pos) (upI X.K mg W fun env st Q E => t env st (fun xs s => match xs with | [.dat (.int j)] => RngOk j ∧ Q (rangeD 0 j) none s | _ => False) E) := by
  refine (pi_range1 hg hm ha hs).imp fun σ H R ⟨ω, env, st, Qd, Ed, RS, t, hQ, hE⟩ => ?_
  refine ⟨ω, env, st, _, Ed, RS, t, fun xs s1 ω1 H1 vs e1 R1 r1 t1 => ?_, hE⟩
  split at t1
  · rename_i j
    cases r1 with
    | cons r1 r2 =>
      cases r2
      cases r1 with
      | dat r1 =>
        cases r1
        refine ⟨j, rfl, t1.1.1, t1.1.2, hQ _ none s1 ω1 H1 _ e1 R1 ?_ trivial t1.2⟩
        have e : rangeD 0 j = (List.range j.toNat).map fun i => D.int (0 + (i : Nat)) := by unfold rangeD; simp
        rw [e]
        exact itOk_rng
  · exact t1.elim
theorem up_irange2 {tg a b : Expr} {t : LA} {p pos : Pos} (hg : Gl X "range") (hm : X.mg "range" = none) (ha : PA X [a, b] (upA X.K mg W t)) (hs : starEach [a, b] X.env = [(false, eval a X.env), (false, eval b X.env)]) (hs2 : starEach [b] X.env = [(false, eval b X.env)]) :
    PI X tg (.Call (.Name "range" p) [a, b] [] pos) (upI X.K mg W fun env st Q E => t env st (fun xs s => match xs with | [.dat (.int i), .dat (.int j)] => RngOk i ∧ RngOk j ∧ Q (rangeD i j) none s | _ => False) E) := by
  refine (pi_range2 hg hm ha hs hs2).imp fun σ H R ⟨ω, env, st, Qd, Ed, RS, t, hQ, hE⟩ => ?_
  refine ⟨ω, env, st, _, Ed, RS, t, fun xs s1 ω1 H1 vs e1 R1 r1 t1 => ?_, hE⟩
  split at t1
  · rename_i i j
    cases r1 with
    | cons r1 r2 =>
      cases r2 with
      | cons r2 r3 =>
        cases r3
        cases r1 with
        | dat r1 =>
          cases r1
          cases r2 with
          | dat r2 =>
            cases r2
            exact ⟨i, j, rfl, ⟨t1.1.1, t1.1.2, t1.2.1.1, t1.2.1.2⟩, hQ _ none s1 ω1 H1 _ e1 R1 itOk_rng trivial t1.2.2⟩
  · exact t1.elim
end

/-! ### for -/
def forL (g : LG) (tb : LS) (De : EndsD) (gd : DSto → Prop) : List D → DEnv → DSto → Prop
  | [], env, st => gd st ∧ De.nx env st
  | d :: ds, env, st => gd st ∧ g (.dat d) env st fun env' st' => tb { De with nx := forL g tb De gd ds, ct := forL g tb De gd ds, bk := De.nx } env' st'
section
variable {X : Cx} {W : WX} {mg : Str → Option Value} {pos : Pos}
theorem up_for {tg iter : Expr} {body : List Stmt} {ti : LI} {g : LG} {tb : LS} (hp : PassesOwn (model X.prog X.w) X.A X.env X.xe) (hc : X.calm = true) (hi : PI X tg iter (upI X.K mg W ti)) (hg : PG X tg (upG X.K mg g)) (hb : PSs X body (upS X.K mg W tb))
    (hs : ∀ x, foldedSetIterable iter X.env x = pure x) : PS X (.For tg iter body [] pos) (upS X.K mg W fun De env st => ti env st (fun items gd s => forL g tb De (guard gd items) items env s) (fun ex s => De.ex ex env s)) := by
  refine (ps_for hp hc hi hg hb hs).imp fun D σ H ⟨ω, env, st, De, R, t, hE⟩ => ?_
  refine ⟨ω, env, st, _, _, R, t, fun items gd s1 ω1 H1 J e1 R1 ok g1 t1 => ?_, hE.upX σ env⟩
  refine ⟨fun i m σ2 H2 => m = items.length - i ∧ i ≤ items.length ∧ ∃ (ω2 : Wd) (env2 : DEnv) (st2 : DSto), Ext ω1 H1 ω2 H2 ∧ RepS X.K mg ω2 H2 σ2 env2 st2 ∧ forL g tb De (guard gd items) (items.drop i) env2 st2, ⟨items.length, by simp, Nat.zero_le _, ω1, env, s1, .refl _ _, R1, t1⟩, ?_⟩
  rintro i m σ2 H2 ⟨rfl, hi, ω2, env2, st2, e2, R2, q⟩
  by_cases hlt : i < items.length
  · rw [List.drop_eq_getElem_cons hlt] at q
    obtain ⟨gq, q⟩ := q
    refine .inr ⟨ok.go i ω2 H2 σ2 env2 st2 e2.toP R2 gq hlt, fun σ4 H4 => ∃ (ω4 : Wd) (env4 : DEnv) (st4 : DSto), Ext ω1 H1 ω4 H4 ∧ RepS X.K mg ω4 H4 σ4 env4 st4 ∧ forL g tb De (guard gd items) (items.drop (i + 1)) env4 st4, fun σ4 H4 ⟨ω4, env4, st4, e4, R4, q4⟩ => ⟨items.length - (i + 1), by omega, rfl, hlt, ω4, env4, st4, e4, R4, q4⟩, fun x H3 y => ?_⟩
    obtain ⟨d, hd, s3, r3⟩ := ok.yld i ω2 H2 σ2 env2 st2 x H3 e2.toP R2 gq hlt y
    rw [List.getElem?_eq_getElem hlt] at hd
    cases hd
    have R3 := R2.same s3
    have e3 := e2.trans (.of_same s3)
    refine ⟨ω2, env2, st2, _, _, R3, .dat r3, q, fun env4 st4 ω4 H4 σ4 e4 R4 q4 => ?_⟩
    have E4 := hE.mono ((e1.trans e3).trans e4)
    refine ⟨ω4, env4, st4, _, R4, q4, ⟨fun env5 st5 ω5 H5 σ5 e5 R5 q5 => ⟨ω5, env5, st5, (e3.trans e4).trans e5, R5, q5⟩, fun env5 st5 ω5 H5 σ5 e5 R5 q5 => E4.nx env5 st5 ω5 H5 σ5 e5 R5 q5, fun env5 st5 ω5 H5 σ5 e5 R5 q5 => ⟨ω5, env5, st5, (e3.trans e4).trans e5, R5, q5⟩, E4.rt, E4.ex⟩⟩
  · have e : i = items.length := by omega
    subst e
    rw [List.drop_length] at q
    exact .inl ⟨ok.stop ω2 H2 σ2 env2 st2 e2.toP R2 q.1, hE.nx env2 st2 ω2 H2 σ2 (e1.trans e2) R2 q.2⟩
end

/-! ### targets of names -/
inductive Tg where
  | one (i : Nat) | many (is : List Nat)
def Tg.slots : Tg → List Nat
  | .one i => [i]
  | .many is => is
def setAll (env : DEnv) : List Nat → List D → DEnv
  | i :: is, d :: ds => setAll (env.set i (some (.dat d))) is ds
  | _, _ => env
def bindT (tg : Tg) (d : D) (env : DEnv) (k : DEnv → Prop) : Prop := match tg with
  | .one i => k (env.set i (some (.dat d)))
  | .many is => match d with
    | .tup ds => ds.length = is.length ∧ k (setAll env is ds)
    | _ => False
def gNames : List Nat → TGs
  | [] => gNil
  | i :: is => gCons (gName i) (gNames is)
def tgV (K : PySem.W.Frag) : Tg → TG
  | .one i => gName i
  | .many is => gTup K is.length (gNames is)
def envWipe (env : DEnv) : List Nat → DEnv
  | [] => env
  | v :: vs => (envWipe env vs).set v none
theorem wipe_get {σ : St} : ∀ {vs : List Nat} {j : Nat}, (wipe σ vs)[j]? = if j ∈ vs ∧ j < σ.length then some none else σ[j]?
  | [], j => by simp [wipe]
  | v :: vs, j => by
    unfold wipe
    by_cases hv : v = j
    · subst hv
      by_cases hl : v < σ.length
      · rw [List.getElem?_set_self (by rw [wipe_length]; exact hl)]
        simp [hl]
      · rw [List.getElem?_eq_none (by rw [List.length_set, wipe_length]; omega)]
        simp [hl]
    · rw [List.getElem?_set_ne hv, wipe_get (vs := vs)]
      have : j ≠ v := fun e => hv e.symm
      simp [this]
theorem envWipe_get {σ : DEnv} : ∀ {vs : List Nat} {j : Nat}, (envWipe σ vs)[j]? = if j ∈ vs ∧ j < σ.length then some none else σ[j]?
  | [], j => by simp [envWipe]
  | v :: vs, j => by
    have hl0 : ∀ vs : List Nat, (envWipe σ vs).length = σ.length := fun vs => by
      induction vs with
      | nil => rfl
      | cons a r ih => unfold envWipe; rw [List.length_set, ih]
    unfold envWipe
    by_cases hv : v = j
    · subst hv
      by_cases hl : v < σ.length
      · rw [List.getElem?_set_self (by rw [hl0]; exact hl)]
        simp [hl]
      · rw [List.getElem?_eq_none (by rw [List.length_set, hl0]; omega)]
        simp [hl]
    · rw [List.getElem?_set_ne hv, envWipe_get (vs := vs)]
      have : j ≠ v := fun e => hv e.symm
      simp [this]
theorem envWipe_length {σ : DEnv} : ∀ vs : List Nat, (envWipe σ vs).length = σ.length
  | [] => rfl
  | v :: vs => by unfold envWipe; rw [List.length_set, envWipe_length vs]
theorem wipe_set {σ : St} {vs : List Nat} {i : Nat} {x : Option V} (h : i ∈ vs) : wipe (σ.set i x) vs = wipe σ vs := by
  apply List.ext_getElem?
  intro j
  rw [wipe_get, wipe_get, List.length_set]
  by_cases hj : j ∈ vs ∧ j < σ.length
  · rw [if_pos hj, if_pos hj]
  · rw [if_neg hj, if_neg hj]
    by_cases e : i = j
    · subst e
      have : ¬ i < σ.length := fun z => hj ⟨h, z⟩
      rw [List.getElem?_eq_none (by rw [List.length_set]; omega), List.getElem?_eq_none (by omega)]
    · rw [List.getElem?_set_ne e]
theorem wipe_wipe {σ : St} {vs : List Nat} : wipe (wipe σ vs) vs = wipe σ vs := by
  apply List.ext_getElem?
  intro j
  rw [wipe_get, wipe_length]
  by_cases hj : j ∈ vs ∧ j < σ.length
  · rw [if_pos hj, wipe_get, if_pos hj]
  · rw [if_neg hj]
section
variable {K : PySem.W.Frag} {mg : Str → Option Value} {ω ω' : Wd} {H H' : Hp} {σ : St} {env : DEnv} {st : DSto}
theorem RepEnv.wipe (r : RepEnv K mg ω H σ env) (vs : List Nat) : RepEnv K mg ω H (L2.wipe σ vs) (envWipe env vs) := by
  induction vs with
  | nil => exact r
  | cons v vs ih => exact ih.unset v
/-- the names' values -/
theorem gNames_rep {vs : List Nat} : ∀ {is : List Nat} {xs : List V} {ds : List D} {σ : St} {env : DEnv} {Q : St → Hp → Prop}, RepEnv K mg ω H σ env → Reps K mg ω H xs ds → ds.length = is.length → (∀ i ∈ is, i ∈ vs) →
    (∀ σ', RepEnv K mg ω H σ' (setAll env is ds) → L2.wipe σ' vs = L2.wipe σ vs → Q σ' H) → gNames is xs σ H Q
  | [], xs, [], σ, env, Q, R, r, hl, hm, q => by
    cases r
    exact ⟨rfl, q σ R rfl⟩
  | i :: is, xs, d :: ds, σ, env, Q, R, r, hl, hm, q => by
    cases r with
    | cons r1 r2 =>
      refine ⟨_, _, rfl, ?_⟩
      refine gNames_rep (R.set (.dat r1) i) r2 (by simpa using hl) (fun j hj => hm j (List.mem_cons_of_mem _ hj)) fun σ' R' w => q σ' R' (w.trans (wipe_set (hm i List.mem_cons_self)))
  | [], _, _ :: _, _, _, _, _, _, hl, _, _ => by cases hl
  | _ :: _, _, [], _, _, _, _, _, hl, _, _ => by cases hl
theorem tgV_rep {tg : Tg} {vs : List Nat} {v : V} {d : D} {Q : St → Hp → Prop} {k : DEnv → Prop} (R : RepEnv K mg ω H σ env) (r : Rep K mg ω H v d) (hm : ∀ i ∈ tg.slots, i ∈ vs) (h : bindT tg d env k)
    (q : ∀ σ' env', RepEnv K mg ω H σ' env' → L2.wipe σ' vs = L2.wipe σ vs → k env' → Q σ' H) : tgV K tg v σ H Q := by
  cases tg with
  | one i => exact q _ _ (R.set (.dat r) i) (wipe_set (hm i (by simp [Tg.slots]))) h
  | many is =>
    simp only [bindT] at h
    split at h
    · rename_i ds
      cases r with
      | tup h1 r1 => exact ⟨_, _, rfl, h1, r1.length.trans h.1, gNames_rep R r1 h.1 hm fun σ' R' w => q σ' _ R' w h.2⟩
    · exact h.elim

/-! ### comprehensions (one for) -/
mutual
theorem Rep.congr2 (hb : ∀ a o, H a = some o → a ∈ ω'.busy → a ∈ ω.busy) (hg : ω'.gam = ω.gam) : ∀ {v : V} {d : D}, Rep K mg ω H v d → Rep K mg ω' H v d
  | _, _, .non => .non
  | _, _, .bl b => .bl b
  | _, _, .int i => .int i
  | _, _, .str x => .str x
  | _, _, .tup h t => .tup h (Reps.congr2 hb hg t)
  | _, _, .lst h n t => .lst h (fun z => n (hb _ _ h z)) (Reps.congr2 hb hg t)
  | _, _, .obj hm h l t => .obj hm h l (Reps.congr2 hb hg t)
  | _, _, .deal h => .deal (by rw [hg]; exact h)
  | _, _, .scr h => .scr h
theorem Reps.congr2 (hb : ∀ a o, H a = some o → a ∈ ω'.busy → a ∈ ω.busy) (hg : ω'.gam = ω.gam) : ∀ {xs : List V} {ds : List D}, Reps K mg ω H xs ds → Reps K mg ω' H xs ds
  | _, _, .nil => .nil
  | _, _, .cons r t => .cons (Rep.congr2 hb hg r) (Reps.congr2 hb hg t)
end
/-- one more list of others, or one less -/
def Wd.withPhi (ω : Wd) (φ : List Addr) : Wd := ⟨ω.ads, ω.liv, ω.gam, φ⟩
theorem withPhi_mut {φ : List Addr} : (ω.withPhi φ).mut = ω.mut := rfl
theorem RepV.congr2 (hb : ∀ a o, H a = some o → a ∈ ω'.busy → a ∈ ω.busy) (hg : ω'.gam = ω.gam) (ha : ω'.ads = ω.ads) {v : V} {x : Va} (r : RepV K mg ω H v x) : RepV K mg ω' H v x := by
  cases r with
  | dat r => exact .dat (r.congr2 hb hg)
  | loc e => exact .loc (by rw [ha]; exact e)
theorem RepS.congr2 (R : RepS K mg ω H σ env st) (w' : WOk ω' H) (hb : ∀ a o, H a = some o → a ∈ ω'.busy → a ∈ ω.busy) (hg : ω'.gam = ω.gam) (ha : ω'.ads = ω.ads) (hl : ω'.liv = ω.liv) : RepS K mg ω' H σ env st :=
  ⟨w', ⟨R.e.1, fun i x h => let ⟨v, h1, h2⟩ := R.e.2 i x h; ⟨v, h1, h2.congr2 hb hg ha⟩⟩, by rw [ha]; exact R.s.1, fun n b ds h =>
    let ⟨a, xs, h1, h2, h3, h4, h5⟩ := R.s.2 n b ds h; ⟨a, xs, by rw [ha]; exact h1, h2, h3.congr2 hb hg, fun z => by rw [hl]; exact h4 z, fun z q => h5 z (hb _ _ h2 q)⟩⟩
theorem RepS.addPhi (R : RepS K mg ω H σ env st) {p : Addr} {xs : List V} (hp : H p = none) : RepS K mg (ω.withPhi (p :: ω.phi)) (upd H p (.lst xs)) σ env st := by
  have s := same_upd (o := HO.lst xs) hp
  have R1 := R.same s
  have nb := free_busy R.w hp
  have hbz : (ω.withPhi (p :: ω.phi)).busy = ω.mut ++ p :: ω.phi := rfl
  refine ⟨?_, ?_, ?_⟩
  · refine ⟨?_, R1.w.nda, R1.w.all, R1.w.sub, R1.w.dls, fun a ha => ?_⟩
    · rw [hbz]
      have : List.Perm (ω.mut ++ p :: ω.phi) (p :: (ω.mut ++ ω.phi)) := List.perm_middle
      exact this.nodup_iff.mpr (List.nodup_cons.mpr ⟨nb, R.w.nd⟩)
    · rcases List.mem_cons.mp (show a ∈ p :: ω.phi from ha) with e | ha
      · subst e
        exact ⟨xs, upd_same⟩
      · exact R1.w.out a ha
  · refine ⟨R.e.1, fun i x h => ?_⟩
    obtain ⟨v, h1, h2⟩ := R.e.2 i x h
    have h3 : RepV K mg (ω.withPhi (p :: ω.phi)) H v x := h2.congr2 (ω := ω) (ω' := ω.withPhi (p :: ω.phi)) (fun a o e q => by
      show a ∈ ω.busy
      rw [hbz] at q
      rcases List.mem_append.mp q with q | q
      · exact mem_busy.mpr (.inl q)
      · rcases List.mem_cons.mp q with q | q
        · rw [q, hp] at e; cases e
        · exact mem_busy.mpr (.inr q)) rfl rfl
    refine ⟨v, h1, ?_⟩
    cases h3 with
    | loc e => exact .loc e
    | dat r =>
      refine .dat ?_
      exact Rep.sameOnly s r
  · refine ⟨R.s.1, fun n b ds h => ?_⟩
    obtain ⟨a, ys, h1, h2, h3, h4, h5⟩ := R.s.2 n b ds h
    refine ⟨a, ys, h1, s _ _ h2, Reps.sameOnly s (h3.congr2 (ω := ω) (ω' := ω.withPhi (p :: ω.phi)) (fun a o e q => by
      show a ∈ ω.busy
      rw [hbz] at q
      rcases List.mem_append.mp q with q | q
      · exact mem_busy.mpr (.inl q)
      · rcases List.mem_cons.mp q with q | q
        · rw [q, hp] at e; cases e
        · exact mem_busy.mpr (.inr q)) rfl), h4, fun z q => ?_⟩
    rw [hbz] at q
    rcases List.mem_append.mp q with q | q
    · exact h5 z (mem_busy.mpr (.inl q))
    · rcases List.mem_cons.mp q with q | q
      · exact ne_of_none h2 hp q
      · exact h5 z (mem_busy.mpr (.inr q))
/-- the list of others at p is another one now -/
theorem WOk.setPhi (w : WOk ω H) {p : Addr} {xs ys : List V} (hp : p ∈ ω.phi) (h : H p = some (.lst xs)) : WOk ω (upd H p (.lst ys)) := by
  have nd := w.nd
  have nm : p ∉ ω.mut := fun z => (List.nodup_append.mp nd).2.2 p z p hp rfl
  have lst : ∀ a, (∃ zs, H a = some (.lst zs)) → ∃ zs, upd H p (.lst ys) a = some (.lst zs) := fun a ⟨zs, z⟩ => by
    by_cases e : a = p
    · exact ⟨ys, by rw [e, upd_same]⟩
    · exact ⟨zs, by rw [upd_ne e]; exact z⟩
  refine ⟨w.nd, w.nda, fun a ha => lst a (w.all a ha), w.sub, fun q hq => ?_, fun a ha => lst a (w.out a ha)⟩
  obtain ⟨m, cs, h1, h2, r⟩ := w.dls q hq
  have n1 : q.1 ≠ p := fun e => nm (List.mem_append_right _ (List.mem_append_left _ (e ▸ List.mem_map_of_mem hq)))
  have n2 : q.2 ≠ p := fun e => nm (List.mem_append_right _ (List.mem_append_right _ (e ▸ List.mem_map_of_mem hq)))
  exact ⟨m, cs, by rw [upd_ne n1]; exact h1, by rw [upd_ne n2]; exact h2, r⟩
mutual
theorem Rep.setPhi {p : Addr} {xs ys : List V} (hb : p ∈ ω.busy) (h : H p = some (.lst xs)) : ∀ {v : V} {d : D}, Rep K mg ω H v d → Rep K mg ω (upd H p (.lst ys)) v d
  | _, _, .non => .non
  | _, _, .bl b => .bl b
  | _, _, .int i => .int i
  | _, _, .str x => .str x
  | _, _, .tup (a := a) q t => .tup (by
      have ne : ∀ o, H a = some o → (∀ zs, o ≠ .lst zs) → upd H p (.lst ys) a = some o := fun o z n => by
        rw [upd_ne (fun e => by rw [e, h] at z; exact n xs (Option.some.inj z).symm)]
        exact z
      rcases q with (q | ⟨o, q⟩) | q
      · exact .inl (.inl (ne _ q fun _ z => by cases z))
      · exact .inl (.inr ⟨o, ne _ q fun _ z => by cases z⟩)
      · exact .inr q) (Reps.setPhi hb h t)
  | _, _, .lst (a := a) q n t => .lst (by rw [upd_ne (fun e : a = p => n (e ▸ hb))]; exact q) n (Reps.setPhi hb h t)
  | _, _, .obj hm q l t => .obj hm (by rw [upd_ne (fun e => by rw [e, h] at q; cases q)]; exact q) l (Reps.setPhi hb h t)
  | _, _, .deal q => .deal q
  | _, _, .scr q => .scr (q.elim (fun ⟨o, z⟩ => .inl ⟨o, by rw [upd_ne (fun e => by rw [e, h] at z; cases z)]; exact z⟩) .inr)
theorem Reps.setPhi {p : Addr} {xs ys : List V} (hb : p ∈ ω.busy) (h : H p = some (.lst xs)) : ∀ {us : List V} {ds : List D}, Reps K mg ω H us ds → Reps K mg ω (upd H p (.lst ys)) us ds
  | _, _, .nil => .nil
  | _, _, .cons r t => .cons (Rep.setPhi hb h r) (Reps.setPhi hb h t)
end
theorem RepS.setPhi (R : RepS K mg ω H σ env st) {p : Addr} {xs ys : List V} (hp : p ∈ ω.phi) (h : H p = some (.lst xs)) : RepS K mg ω (upd H p (.lst ys)) σ env st := by
  have hb : p ∈ ω.busy := mem_busy.mpr (.inr hp)
  have nd := R.w.nd
  have nm : p ∉ ω.mut := fun z => (List.nodup_append.mp nd).2.2 p z p hp rfl
  refine ⟨R.w.setPhi hp h, ⟨R.e.1, fun i x q => ?_⟩, R.s.1, fun n b ds q => ?_⟩
  · obtain ⟨v, h1, h2⟩ := R.e.2 i x q
    refine ⟨v, h1, ?_⟩
    cases h2 with
    | loc e => exact .loc e
    | dat r => exact .dat (r.setPhi hb h)
  · obtain ⟨a, zs, h1, h2, h3, h4, h5⟩ := R.s.2 n b ds q
    have ne : a ≠ p := fun e => by
      subst e
      cases b with
      | true => exact nm (List.mem_append_left _ (h4 rfl))
      | false => exact h5 rfl hb
    exact ⟨a, zs, h1, by rw [upd_ne ne]; exact h2, h3.setPhi hb h, h4, h5⟩
/-- a world with less of others' lists -/
theorem WOk.lessPhi (w : WOk ω H) {φ : List Addr} (hs : φ.Sublist ω.phi) : WOk (ω.withPhi φ) H := by
  refine ⟨?_, w.nda, w.all, w.sub, w.dls, fun a ha => w.out a (hs.subset ha)⟩
  have nd := w.nd
  unfold Wd.busy at nd ⊢
  exact nd.sublist (List.Sublist.append (List.Sublist.refl _) hs)
theorem busy_less {φ : List Addr} (hs : φ.Sublist ω.phi) {a : Addr} (h : a ∈ (ω.withPhi φ).busy) : a ∈ ω.busy := by
  rcases mem_busy.mp h with q | q
  · exact mem_busy.mpr (.inl q)
  · exact mem_busy.mpr (.inr (hs.subset q))
theorem RepS.lessPhi (R : RepS K mg ω H σ env st) {φ : List Addr} (hs : φ.Sublist ω.phi) : RepS K mg (ω.withPhi φ) H σ env st := R.congr2 (R.w.lessPhi hs) (fun a o _ q => busy_less hs q) rfl rfl rfl
/-- a new list that stood among the others' is the def's own, or data -/
theorem newL_phi {own : Bool} {ds : List D} {xs : List V} {p : Addr} {Q : QV} {φ : List Addr} (R : RepS K mg ω H σ env st) (hphi : ω.phi = p :: φ) (hp : H p = some (.lst xs)) (r : Reps K mg ω H xs ds) (h : newL own ds st Q) :
    ∃ x st' ω', (∃ l, ω'.ads = ω.ads ++ l) ∧ ω'.gam = ω.gam ∧ ω'.phi = φ ∧ (∀ a, a ≠ p → a ∉ ω.mut → a ∉ ω'.mut) ∧ RepS K mg ω' H σ env st' ∧ RepV K mg ω' H (.ref p) x ∧ Q x st' := by
  have hs : φ.Sublist ω.phi := by rw [hphi]; exact List.sublist_cons_self _ _
  have R1 := R.lessPhi hs
  have nd := R.w.nd
  unfold Wd.busy at nd
  rw [hphi] at nd
  have nd2 := List.perm_middle.nodup_iff.mp nd
  have nb : p ∉ ω.mut ++ φ := (List.nodup_cons.mp nd2).1
  have r1 : Reps K mg (ω.withPhi φ) H xs ds := r.congr2 (fun a o _ q => busy_less hs q) rfl
  cases own with
  | false => exact ⟨_, st, ω.withPhi φ, ⟨[], by simp [Wd.withPhi]⟩, rfl, rfl, fun a _ h => h, R1, .dat (.lst hp nb r1), h⟩
  | true =>
    have na : p ∉ ω.ads := fun z => by
      obtain ⟨n, hn, e1⟩ := List.mem_iff_getElem.mp z
      have hn2 : n < st.length := by rw [R.s.1]; exact hn
      obtain ⟨a', zs, q1, q2, q3, q4, q5⟩ := R.s.2 n st[n].1 st[n].2 (List.getElem?_eq_getElem hn2)
      rw [List.getElem?_eq_getElem hn, e1] at q1
      cases q1
      cases hbb : st[n].1 with
      | true => exact nb (List.mem_append_left _ (List.mem_append_left _ (q4 hbb)))
      | false => exact q5 hbb (mem_busy.mpr (.inr (by rw [hphi]; exact List.mem_cons_self)))
    obtain ⟨ω', hω⟩ : ∃ ω' : Wd, ω' = ⟨ω.ads ++ [p], p :: ω.liv, ω.gam, φ⟩ := ⟨_, rfl⟩
    have hgs : ω'.gs = ω.gs := gs_eq (by rw [hω])
    have hm : ω'.mut = p :: ω.mut := by
      unfold Wd.mut
      rw [hgs, hω] <;> rfl
    have hb : ω'.busy = p :: (ω.mut ++ φ) := by
      unfold Wd.busy
      rw [hm, hω] <;> rfl
    have w' : WOk ω' H := by
      refine ⟨by rw [hb]; exact nd2, ?_, fun a ha => ?_, fun a ha => ?_, by rw [hω]; exact R.w.dls, fun a ha => R.w.out a (by rw [hphi]; rw [hω] at ha; exact List.mem_cons_of_mem _ ha)⟩
      · rw [hω]
        exact List.nodup_append.mpr ⟨R.w.nda, by simp, fun a ha b hb2 e => na (by rw [List.mem_singleton] at hb2; rw [← hb2, ← e]; exact ha)⟩
      · rw [hω] at ha
        rcases List.mem_append.mp ha with ha | ha
        · exact R.w.all a ha
        · rw [List.mem_singleton] at ha
          subst ha
          exact ⟨xs, hp⟩
      · rw [hω] at ha ⊢
        rcases List.mem_cons.mp ha with ha | ha
        · subst ha
          exact List.mem_append_right _ (List.mem_singleton.mpr rfl)
        · exact List.mem_append_left _ (R.w.sub a ha)
    -- what is borne reads no list at p
    have rep : ∀ {v : V} {d : D}, Rep K mg ω H v d → Rep K mg ω' H v d := fun {v d} q => by
      have hb2 : ∀ a, a ∈ ω'.busy → a ∈ ω.busy := fun a z => by
        rw [hb] at z
        rcases List.mem_cons.mp z with z | z
        · exact mem_busy.mpr (.inr (by rw [hphi, z]; exact List.mem_cons_self))
        · rcases List.mem_append.mp z with z | z
          · exact mem_busy.mpr (.inl z)
          · exact mem_busy.mpr (.inr (by rw [hphi]; exact List.mem_cons_of_mem _ z))
      exact q.congr2 (fun a o _ z => hb2 a z) (by rw [hω])
    have hb2 : ∀ a, a ∈ ω'.busy → a ∈ ω.busy := fun a z => by
      rw [hb] at z
      rcases List.mem_cons.mp z with z | z
      · exact mem_busy.mpr (.inr (by rw [hphi, z]; exact List.mem_cons_self))
      · rcases List.mem_append.mp z with z | z
        · exact mem_busy.mpr (.inl z)
        · exact mem_busy.mpr (.inr (by rw [hphi]; exact List.mem_cons_of_mem _ z))
    have reps : ∀ {us : List V} {es : List D}, Reps K mg ω H us es → Reps K mg ω' H us es := fun {us es} q => q.congr2 (fun a o _ z => hb2 a z) (by rw [hω])
    refine ⟨.loc st.length, st ++ [(true, ds)], ω', ⟨[p], by rw [hω]⟩, by rw [hω], by rw [hω], fun a ne h => by rw [hm]; intro z; rcases List.mem_cons.mp z with z | z; exact ne z; exact h z, ⟨w', ⟨R.e.1, fun i x q => ?_⟩, by rw [hω, List.length_append, List.length_append, R.s.1] <;> rfl, fun n b es hn => ?_⟩, .loc (by rw [hω, R.s.1]; simp), h⟩
    · obtain ⟨v, h1, h2⟩ := R.e.2 i x q
      refine ⟨v, h1, ?_⟩
      cases h2 with
      | dat rr => exact .dat (rep rr)
      | loc e => exact .loc (by rw [hω, List.getElem?_append_left (List.getElem?_eq_some_iff.mp e).1]; exact e)
    · by_cases hl : n < st.length
      · rw [List.getElem?_append_left hl] at hn
        obtain ⟨a, zs, h1, h2, h3, h4, h5⟩ := R.s.2 n b es hn
        refine ⟨a, zs, by rw [hω, List.getElem?_append_left (by rw [← R.s.1]; exact hl)]; exact h1, h2, reps h3, fun z => by rw [hω]; exact List.mem_cons_of_mem _ (h4 z), fun z q => h5 z (hb2 a q)⟩
      · have hn2 : n = st.length := by
          have := (List.getElem?_eq_some_iff.mp hn).1
          rw [List.length_append] at this
          simp at this
          omega
        subst hn2
        rw [List.getElem?_append_right (Nat.le_refl _)] at hn
        simp at hn
        obtain ⟨rfl, rfl⟩ := hn
        exact ⟨p, xs, by rw [hω, R.s.1]; simp, hp, reps r, fun _ => by rw [hω]; exact List.mem_cons_self, fun z => by cases z⟩
end
/-- the walk of a comprehension: tests and elements change no own list -/
def compL (tg : Tg) (tt : LT) (te : LE) (vs : List Nat) (env : DEnv) (st : DSto) (gd : DSto → Prop) (k : List D → Prop) : List D → List D → Prop
  | [], acc => gd st ∧ k acc
  | d :: ds, acc => gd st ∧ bindT tg d (envWipe env vs) fun env' => tt env' st (fun b s1 => s1 = st ∧
      IteB b (te env' st (fun x s2 => s2 = st ∧ acc.length < sizeLine ∧ (match x with | .dat y => compL tg tt te vs env st gd k ds (acc ++ [y]) | .loc _ => False)) (fun _ _ => False))
      (compL tg tt te vs env st gd k ds acc)) (fun _ _ => False)
def noX : WX := fun _ _ _ _ => False
theorem upX_no {K : PySem.W.Frag} {mg : Str → Option Value} {ω : Wd} {H : Hp} {σ : St} {env : DEnv} : upX K mg noX ω H σ env (fun _ _ => False) := fun _ _ _ _ _ _ _ _ _ h => h.elim
/-- the reading of a comprehension's walk -/
theorem lc_read {K : PySem.W.Frag} {mg : Str → Option Value} {tg : Tg} {tt : LT} {te : LE} {vs : List Nat} {own : Bool} {items : List D} {gd : Option Nat} {ω1 : Wd} {H1 : Hp} {σ : St} {env : DEnv} {s1 : DSto} {J : It} {Q : VK} {Qd : QV} (hvs : ∀ i ∈ tg.slots, i ∈ vs)
    (R1 : RepS K mg ω1 H1 σ env s1) (ok : ItOk K mg J items ω1 H1 gd) (t1 : compL tg tt te vs env s1 (guard gd items) (fun acc => newL own acc s1 Qd) items [])
    (hQ : ∀ d st' ω' H' v, Ext ω1 H1 ω' H' → RepS K mg ω' H' σ env st' → RepV K mg ω' H' v d → Qd d st' → Q v H') (D : Addr) (hD : H1 D = none) :
    ∃ W : Nat → Nat → Hp → Prop, (∃ m, W 0 m (upd H1 D (.lst []))) ∧ ∀ i m H, W i m H →
      (J.stop i H ∧ Q (.ref D) H) ∨ (J.go i H ∧ ∃ Nx : Hp → Prop, (∀ H', Nx H' → ∃ m', m' < m ∧ W (i + 1) m' H') ∧ ∀ x H', J.yld i H x H' → tgV K tg x (L2.wipe σ vs) H' fun σ2 H2 => L2.wipe σ2 vs = L2.wipe σ vs ∧ upT K mg noX tt σ2 H2 fun b H3 =>
        if b = true then upE K mg noX te σ2 H3 fun y H4 => ∃ acc, H4 D = some (.lst acc) ∧ acc.length < sizeLine ∧ Nx (upd H4 D (.lst (acc ++ [y]))) else Nx H3) := by
  obtain ⟨W, hW⟩ : ∃ W : Nat → Hp → Prop, W = fun i H2 => ∃ (ωc : Wd) (acc : List Pd.D) (xs : List V), ωc.phi = D :: ω1.phi ∧ Ext ω1 H1 (ωc.withPhi ω1.phi) H2 ∧ RepS K mg ωc H2 σ env s1 ∧ H2 D = some (.lst xs) ∧ Reps K mg ωc H2 xs acc ∧
      compL tg tt te vs env s1 (guard gd items) (fun acc => newL own acc s1 Qd) (items.drop i) acc := ⟨_, rfl⟩
  refine ⟨fun i m H2 => m = items.length - i ∧ i ≤ items.length ∧ W i H2, ⟨items.length, by simp, Nat.zero_le _, ?_⟩, ?_⟩
  · rw [hW]
    have s := same_upd (o := HO.lst []) hD
    exact ⟨ω1.withPhi (D :: ω1.phi), [], [], rfl, ⟨⟨[], by simp [Wd.withPhi]⟩, ⟨[], by simp [Wd.withPhi]⟩, rfl, fun a o h n => ⟨s _ _ h, n⟩⟩, R1.addPhi hD, upd_same, .nil, t1⟩
  · rintro i m H2 ⟨rfl, hi, w⟩
    rw [hW] at w
    obtain ⟨ωc, acc, xs, hphi, ext, R2, hx, rx, q⟩ := w
    have hs : ω1.phi.Sublist ωc.phi := by rw [hphi]; exact List.sublist_cons_self _ _
    have extP : ExtP ω1 H1 ωc H2 := ⟨ext.ads, ext.gam, fun a o h q => by
      rw [hphi] at q
      rcases List.mem_cons.mp q with q | q
      · exact absurd q (ne_of_none h hD)
      · exact q, ext.keep⟩
    have hDb : D ∈ ωc.phi := by rw [hphi]; exact List.mem_cons_self
    by_cases hlt : i < items.length
    · rw [List.drop_eq_getElem_cons hlt] at q
      obtain ⟨gq, q⟩ := q
      refine .inr ⟨ok.go i _ H2 σ env s1 extP R2 gq hlt, W (i + 1), fun H4 w4 => ⟨items.length - (i + 1), by omega, rfl, hlt, w4⟩, fun x H3 y => ?_⟩
      obtain ⟨d, hd, s3, r3⟩ := ok.yld i _ H2 σ env s1 x H3 extP R2 gq hlt y
      rw [List.getElem?_eq_getElem hlt] at hd
      cases hd
      have R3 := R2.same s3
      · refine tgV_rep (R3.e.wipe vs) r3 hvs q fun σ4 env4 R4 w4 q4 => ⟨by rw [w4, wipe_wipe], ?_⟩
        have S4 : RepS K mg ωc H3 σ4 env4 s1 := ⟨R3.w, R4, R3.s⟩
        refine ⟨ωc, env4, s1, _, _, S4, q4, fun b s5 ω5 H5 e5 R5 q5 => ?_, upX_no⟩
        obtain ⟨rfl, q5⟩ := q5
        have nm : D ∉ ωc.mut := fun z => (List.nodup_append.mp R3.w.nd).2.2 D z D hDb rfl
        have hx3 := s3 _ _ hx
        obtain ⟨hx5, nm5⟩ := e5.keep D _ hx3 nm
        have p5 : ω5.phi = D :: ω1.phi := e5.phi.trans hphi
        have x5 : Ext ω1 H1 (ω5.withPhi ω1.phi) H5 := ⟨by obtain ⟨l, a⟩ := ext.ads; obtain ⟨l2, b⟩ := e5.ads; exact ⟨l ++ l2, by rw [← List.append_assoc, ← a]; exact b⟩, by obtain ⟨l, a⟩ := ext.gam; obtain ⟨l2, b⟩ := e5.gam; exact ⟨l ++ l2, by rw [← List.append_assoc, ← a]; exact b⟩, rfl, fun a o h n => by
          obtain ⟨h1, n1⟩ := ext.keep a o h n
          exact e5.keep a o (s3 _ _ h1) n1⟩
        -- the def's own slots, by the later heap
        have back : ∀ {ω6 : Wd} {H6 : Hp}, Ext ωc H3 ω6 H6 → RepS K mg ω6 H6 σ4 env4 s5 → RepS K mg ω6 H6 σ env s5 := fun {ω6 H6} e6 R6 => ⟨R6.w, R3.e.mono e6 R3.w, R6.s⟩
        cases b with
        | false =>
          have q5 := q5.2 rfl
          rw [if_neg Bool.false_ne_true, hW]
          exact ⟨ω5, acc, xs, p5, x5, back e5 R5, hx5, (rx.sameOnly s3).mono e5 R3.w, q5⟩
        | true =>
          have q5 := q5.1 rfl
          rw [if_pos rfl]
          refine ⟨ω5, env4, s5, _, _, R5, q5, fun z s6 ω6 H6 v e6 R6 r6 q6 => ?_, upX_no⟩
          obtain ⟨rfl, hz, q6⟩ := q6
          have hD5 : D ∈ ω5.phi := by rw [p5]; exact List.mem_cons_self
          have e36 := e5.trans e6
          obtain ⟨hx6, nm6⟩ := e6.keep D _ hx5 nm5
          have rx6 := (rx.sameOnly s3).mono e36 R3.w
          refine ⟨xs, hx6, by rw [rx6.length]; exact hz, ?_⟩
          rw [hW]
          split at q6
          · rename_i y
            cases r6 with
            | dat r6 =>
              have hD6 : D ∈ ω6.phi := by rw [e6.phi]; exact hD5
              have hb6 : D ∈ ω6.busy := mem_busy.mpr (.inr hD6)
              have p6 : ω6.phi = D :: ω1.phi := e6.phi.trans p5
              refine ⟨ω6, acc ++ [y], xs ++ [v], p6, ?_, (back e36 R6).setPhi hD6 hx6, upd_same, ((rx6.append (.cons r6 .nil)).setPhi hb6 hx6), q6⟩
              refine ⟨by obtain ⟨l, a⟩ := x5.ads; obtain ⟨l2, b⟩ := e6.ads; exact ⟨l ++ l2, by rw [← List.append_assoc, ← a]; exact b⟩, by obtain ⟨l, a⟩ := x5.gam; obtain ⟨l2, b⟩ := e6.gam; exact ⟨l ++ l2, by rw [← List.append_assoc, ← a]; exact b⟩, rfl, fun a o h n => ?_⟩
              obtain ⟨h1, n1⟩ := x5.keep a o h n
              obtain ⟨h2, n2⟩ := e6.keep a o h1 n1
              exact ⟨by rw [upd_ne (ne_of_none h hD)]; exact h2, n2⟩
          · exact q6.elim
    · have e : i = items.length := by omega
      subst e
      rw [List.drop_length] at q
      obtain ⟨gq, q⟩ := q
      refine .inl ⟨ok.stop _ H2 σ env s1 extP R2 gq, ?_⟩
      obtain ⟨x, s3, ω3, h1, h2, h3, h4, R3, r3, q3⟩ := newL_phi R2 hphi hx rx q
      refine hQ x s3 ω3 H2 _ ⟨?_, ?_, h3, fun a o h n => ?_⟩ R3 r3 q3
      · obtain ⟨l, a⟩ := ext.ads
        obtain ⟨l2, b⟩ := h1
        exact ⟨l ++ l2, by rw [b, ← List.append_assoc, ← a] <;> rfl⟩
      · obtain ⟨l, a⟩ := ext.gam
        exact ⟨l, by rw [h2, ← a] <;> rfl⟩
      · obtain ⟨p1, p2⟩ := ext.keep a o h n
        exact ⟨p1, h4 a (ne_of_none h hD) p2⟩
end Pd

/-! Pd: comprehensions as expressions, built-ins, lists that change. -/
namespace Pd
open PySem L2

section
variable {X : Cx} {W : WX} {mg : Str → Option Value} {pos : Pos}
theorem up_lc {elt tgE iter : Expr} {ifs : List Expr} {scope : Scope} {own : List (Str × Nat)} {ti : LI} {tg : Tg} {tt : LT} {te : LE} (isOwn : Bool) (hvs : ∀ i ∈ tg.slots, i ∈ own.map (·.2)) (hc : X.calm = true) (hN : X.N.Nodup) (hi : PI X tgE iter (upI X.K mg W ti)) (ok : BlkOk X.N X.env.scope scope own)
    (hg : ∀ (s : Shared) (H : Hp) (C : Addr) (cl : List (Str × Addr)) (fp : List Addr), PG (X.blk s H scope (compEnvC scope cl C X.env) fp) tgE (tgV X.K tg)) (ht : ∀ (s : Shared) (H : Hp) (C : Addr) (cl : List (Str × Addr)) (fp : List Addr), PTs (X.blk s H scope (compEnvC scope cl C X.env) fp) ifs (upT X.K mg noX tt))
    (he : ∀ (s : Shared) (H : Hp) (C : Addr) (cl : List (Str × Addr)) (fp : List Addr), PE (X.blk s H scope (compEnvC scope cl C X.env) fp) elt (upE X.K mg noX te)) (hs : ∀ x, foldedSetIterable iter X.env x = pure x) :
    PE X (.ListComp elt [⟨tgE, iter, ifs, 0⟩] scope pos) (upE X.K mg W fun env st Q E => ti env st (fun items gd s1 => compL tg tt te (own.map (·.2)) env s1 (guard gd items) (fun acc => newL isOwn acc s1 Q) items []) E) := by
  refine (pe_lc hc hN hi ok hg ht he hs).imp fun σ H Q ⟨ω, env, st, Qd, Ed, R, t, hQ, hE⟩ => ?_
  refine ⟨ω, env, st, _, Ed, R, t, fun items gd s1 ω1 H1 J e1 R1 ok1 g1 t1 D hD => ?_, hE⟩
  exact lc_read hvs R1 ok1 t1 (fun d st' ω' H' v e R r q => hQ d st' ω' H' v (e1.trans e) R r q) D hD
theorem up_setLc {i : Nat} {y : Str} {py spos : Pos} {elt tgE iter : Expr} {ifs : List Expr} {scope : Scope} {own : List (Str × Nat)} {ti : LI} {tg : Tg} {tt : LT} {te : LE} (isOwn : Bool) (hvs : ∀ i ∈ tg.slots, i ∈ own.map (·.2)) (hc : X.calm = true) (hN : X.N.Nodup) (hy : X.N[i]? = some y)
    (hyl : X.env.scope.names.lookup y = some .local) (hsw : swapsWith (.ListComp elt [⟨tgE, iter, ifs, 0⟩] scope pos) (some (.Name y py)) spos.line X.env = pure true) (hi : PI X tgE iter (upI X.K mg W ti)) (ok : BlkOk X.N X.env.scope scope own)
    (hg : ∀ (s : Shared) (H : Hp) (C : Addr) (cl : List (Str × Addr)) (fp : List Addr), PG (X.blk s H scope (compEnvC scope cl C X.env) fp) tgE (tgV X.K tg)) (ht : ∀ (s : Shared) (H : Hp) (C : Addr) (cl : List (Str × Addr)) (fp : List Addr), PTs (X.blk s H scope (compEnvC scope cl C X.env) fp) ifs (upT X.K mg noX tt))
    (he : ∀ (s : Shared) (H : Hp) (C : Addr) (cl : List (Str × Addr)) (fp : List Addr), PE (X.blk s H scope (compEnvC scope cl C X.env) fp) elt (upE X.K mg noX te)) (hs : ∀ x, foldedSetIterable iter X.env x = pure x) :
    PS X (.Assign [.Name y py] (.ListComp elt [⟨tgE, iter, ifs, 0⟩] scope pos) spos) (upS X.K mg W fun De env st => ti env st (fun items gd s1 => compL tg tt te (own.map (·.2)) env s1 (guard gd items) (fun acc => newL isOwn acc s1 (fun x s2 => De.nx (env.set i (some x)) s2)) items []) (fun ex s => De.ex ex env s)) := by
  refine (ps_setLc hc hN hy hyl hsw hi ok hg ht he hs).imp fun D σ H ⟨ω, env, st, De, R, t, hE⟩ => ?_
  refine ⟨ω, env, st, _, _, R, t, fun items gd s1 ω1 H1 J e1 R1 ok1 g1 t1 pp hD => ?_, hE.upX σ env⟩
  exact lc_read (Q := fun v H' => gName i v σ H' D.nx) hvs R1 ok1 t1 (fun d st' ω' H' v e R r q => hE.nx _ st' ω' H' _ (e1.trans e) ⟨R.w, R.e.set r i, R.s⟩ q) pp hD
end

/-! ### built-ins -/
section
variable (K : PySem.W.Frag) (mg : Str → Option Value)
def LiftC (r : List V → Hp → VK → Prop) (f : DSto → List Va → (D → Prop) → Prop) : Prop := ∀ (ω : Wd) (H : Hp) (σ : St) (env : DEnv) (st : DSto) (vs : List V) (xs : List Va) (Qd : D → Prop) (Q : VK),
  RepS K mg ω H σ env st → RepVs K mg ω H vs xs → f st xs Qd → (∀ d H' w, Same H H' → Rep K mg ω H' w d → Qd d → Q w H') → r vs H Q
end
section
variable {X : Cx} {W : WX} {mg : Str → Option Value} {x : Str} {p pos : Pos} {e : Expr} {es : List Expr} {t : LA} {id T : String} {r : List V → Hp → VK → Prop} {f : DSto → List Va → (D → Prop) → Prop}
theorem up_blt (hc : CallR X (.builtin id) r) (hl : LiftC X.K mg r f) (hg : Gl X x) (hm : X.mg x = none) (hv : bootBuiltins x = some (.builtin id)) (ha : PA X (e :: es) (upA X.K mg W t)) (hn : x ≠ "__name__") (hdb : (x == ("__debug__" : Str)) = false)
    (he : starEach (e :: es) X.env = (false, eval e X.env) :: starEach es X.env) (hpl : (backTo pos (starEach es X.env)).any (·.1) = false) :
    PE X (.Call (.Name x p) (e :: es) [] pos) (upE X.K mg W fun env st Q E => t env st (fun xs s1 => f s1 xs fun d => Q (.dat d) s1) E) := by
  refine (pe_callB hc hg hm hv ha hn hdb he hpl).imp fun σ H Q ⟨ω, env, st, Qd, Ed, R, t0, hQ, hE⟩ => ?_
  refine ⟨ω, env, st, _, Ed, R, t0, fun xs s1 ω1 H1 vs e1 R1 r1 t1 => ?_, hE⟩
  exact hl ω1 H1 σ env s1 vs xs _ _ R1 r1 t1 fun d H' w s rw q => hQ _ s1 ω1 H' w (e1.trans (.of_same s)) (R1.same s) (.dat rw) q
theorem up_ty (hc : CallR X (.type T) r) (hl : LiftC X.K mg r f) (hg : Gl X x) (hm : X.mg x = none) (hv : bootBuiltins x = some (.type T)) (ha : PA X (e :: es) (upA X.K mg W t)) (hn : x ≠ "__name__") (hdb : (x == ("__debug__" : Str)) = false)
    (he : starEach (e :: es) X.env = (false, eval e X.env) :: starEach es X.env) (hpl : (backTo pos (starEach es X.env)).any (·.1) = false) :
    PE X (.Call (.Name x p) (e :: es) [] pos) (upE X.K mg W fun env st Q E => t env st (fun xs s1 => f s1 xs fun d => Q (.dat d) s1) E) := by
  refine (pe_callTy hc hg hm hv ha hn hdb he hpl).imp fun σ H Q ⟨ω, env, st, Qd, Ed, R, t0, hQ, hE⟩ => ?_
  refine ⟨ω, env, st, _, Ed, R, t0, fun xs s1 ω1 H1 vs e1 R1 r1 t1 => ?_, hE⟩
  exact hl ω1 H1 σ env s1 vs xs _ _ R1 r1 t1 fun d H' w s rw q => hQ _ s1 ω1 H' w (e1.trans (.of_same s)) (R1.same s) (.dat rw) q
end
/-! len -/
def lenX (st : DSto) (xs : List Va) (Q : D → Prop) : Prop := match xs with
  | [.dat (.str z)] => z.length ≤ sizeLine ∧ Q (.int z.length)
  | [x] => ∃ ds, seqX st x = some ds ∧ Q (.int ds.length)
  | _ => False
theorem lift_len {K : PySem.W.Frag} {mg : Str → Option Value} : LiftC K mg (fun xs H Q => (∃ x n, xs = [x] ∧ LenV K x H n ∧ Q (.int n) H) ∨ ∃ p ys, xs = [.ref p] ∧ (SqL K H p ys ∨ SqT K H p ys) ∧ Q (.int ys.length) H) lenX := by
  intro ω H σ env st vs xs Qd Q R r h hQ
  unfold lenX at h
  split at h
  · rename_i z
    cases r with
    | cons r1 r2 =>
      cases r2
      cases r1 with
      | dat r1 =>
        cases r1
        exact .inl ⟨.str z, _, rfl, ⟨h.1, rfl⟩, hQ _ _ _ (Same.refl H) (.int _) h.2⟩
  · obtain ⟨ds, hds, h⟩ := h
    · cases r with
      | cons r1 r2 =>
        cases r2
        obtain ⟨a, ys, rfl, hs, rs⟩ := seqX_rep R r1 hds
        exact .inr ⟨a, ys, rfl, hs, by rw [rs.length]; exact hQ _ _ _ (Same.refl H) (.int _) h⟩
  · exact h.elim
/-! abs, int, str, max, min, tuple -/
def int1X (C : Int → Prop) (g : Int → D) (st : DSto) (xs : List Va) (Q : D → Prop) : Prop := match xs with
  | [.dat (.int i)] => C i ∧ Q (g i)
  | _ => False
def int2X (C : Int → Int → Prop) (g : Int → Int → D) (st : DSto) (xs : List Va) (Q : D → Prop) : Prop := match xs with
  | [.dat (.int i), .dat (.int j)] => C i j ∧ Q (g i j)
  | _ => False
theorem lift_int1 {K : PySem.W.Frag} {mg : Str → Option Value} {C : Int → Prop} {g : Int → V} {g' : Int → D} (hg : ∀ ω H i, Rep K mg ω H (g i) (g' i)) : LiftC K mg (fun xs H Q => ∃ i, xs = [.int i] ∧ C i ∧ Q (g i) H) (int1X C g') := by
  intro ω H σ env st vs xs Qd Q R r h hQ
  unfold int1X at h
  split at h
  · rename_i i
    cases r with
    | cons r1 r2 =>
      cases r2
      cases r1 with
      | dat r1 =>
        cases r1
        exact ⟨i, rfl, h.1, hQ _ _ _ (Same.refl H) (hg _ _ _) h.2⟩
  · exact h.elim
theorem lift_int2 {K : PySem.W.Frag} {mg : Str → Option Value} {C : Int → Int → Prop} {g : Int → Int → V} {g' : Int → Int → D} (hg : ∀ ω H i j, Rep K mg ω H (g i j) (g' i j)) : LiftC K mg (fun xs H Q => ∃ i j, xs = [.int i, .int j] ∧ C i j ∧ Q (g i j) H) (int2X C g') := by
  intro ω H σ env st vs xs Qd Q R r h hQ
  unfold int2X at h
  split at h
  · rename_i i j
    cases r with
    | cons r1 r2 =>
      cases r2 with
      | cons r2 r3 =>
        cases r3
        cases r1 with
        | dat r1 =>
          cases r1
          cases r2 with
          | dat r2 =>
            cases r2
            exact ⟨i, j, rfl, h.1, hQ _ _ _ (Same.refl H) (hg _ _ _ _) h.2⟩
  · exact h.elim
def intX1 (st : DSto) (xs : List Va) (Q : D → Prop) : Prop := match xs with
  | [.dat (.int i)] => Q (.int i)
  | [.dat (.bl b)] => Q (.int (if b then 1 else 0))
  | _ => False
theorem lift_intc {K : PySem.W.Frag} {mg : Str → Option Value} : LiftC K mg (fun xs H Q => (∃ i, xs = [.int i] ∧ Q (.int i) H) ∨ ∃ k, xs = [.bl k] ∧ Q (.int (if k then 1 else 0)) H) intX1 := by
  intro ω H σ env st vs xs Qd Q R r h hQ
  unfold intX1 at h
  split at h
  · rename_i i
    cases r with
    | cons r1 r2 =>
      cases r2
      cases r1 with
      | dat r1 => cases r1; exact .inl ⟨i, rfl, hQ _ _ _ (Same.refl H) (.int _) h⟩
  · rename_i i
    cases r with
    | cons r1 r2 =>
      cases r2
      cases r1 with
      | dat r1 => cases r1; exact .inr ⟨i, rfl, hQ _ _ _ (Same.refl H) (.int _) h⟩
  · exact h.elim
def tupX (st : DSto) (xs : List Va) (Q : D → Prop) : Prop := match xs with
  | [x] => ∃ ds, seqX st x = some ds ∧ Q (.tup ds)
  | _ => False
theorem lift_tup {K : PySem.W.Frag} {mg : Str → Option Value} : LiftC K mg (fun xs H Q => ∃ p ys, xs = [.ref p] ∧ ((SqL K H p ys ∧ ∀ l, H l = none → Q (.ref l) (upd H l (.tup ys))) ∨ (SqT K H p ys ∧ Q (.ref p) H))) tupX := by
  intro ω H σ env st vs xs Qd Q R r h hQ
  unfold tupX at h
  split at h
  · obtain ⟨ds, hds, h⟩ := h
    · cases r with
      | cons r1 r2 =>
        cases r2
        obtain ⟨a, ys, rfl, hs, rs⟩ := seqX_rep R r1 hds
        rcases hs with hs | hs
        · exact ⟨a, ys, rfl, .inl ⟨hs, fun l hl => hQ _ _ _ (same_upd hl) (rep_tup_new R.w hl rs) h⟩⟩
        · exact ⟨a, ys, rfl, .inr ⟨hs, hQ _ _ _ (Same.refl H) (.tup hs rs) h⟩⟩
  · exact h.elim
/-! list(x): a new list -/
section
variable {X : Cx} {W : WX} {mg : Str → Option Value} {x : Str} {p pos : Pos} {e : Expr} {t : LA}
theorem up_listOf (own : Bool) (hg : Gl X "list") (hm : X.mg "list" = none) (ha : PA X [e] (upA X.K mg W t)) (he : starEach [e] X.env = (false, eval e X.env) :: starEach [] X.env) :
    PE X (.Call (.Name "list" p) [e] [] pos) (upE X.K mg W fun env st Q E => t env st (fun xs s1 => match xs with | [x] => (match seqX s1 x with | some ds => newL own ds s1 Q | none => False) | _ => False) E) := by
  refine (pe_callTy (X := X) call_list_of hg hm PyProof.Rows.boot_list ha (by decide) (by decide) he rfl).imp fun σ H Q ⟨ω, env, st, Qd, Ed, R, t0, hQ, hE⟩ => ?_
  refine ⟨ω, env, st, _, Ed, R, t0, fun xs s1 ω1 H1 vs e1 R1 r1 t1 => ?_, hE⟩
  split at t1
  · split at t1
    · rename_i ds hds
      cases r1 with
      | cons r1 r2 =>
        cases r2
        obtain ⟨a, ys, rfl, hs, rs⟩ := seqX_rep R1 r1 hds
        refine ⟨a, ys, rfl, hs, fun l hl => ?_⟩
        obtain ⟨x, s3, ω3, e3, R3, r3, t3⟩ := newL_rep R1 hl rs t1
        exact hQ x s3 ω3 _ _ (e1.trans e3) R3 r3 t3
    · exact t1.elim
  · exact t1.elim
end

/-! ### own lists that change -/
section
variable {K : PySem.W.Frag} {mg : Str → Option Value} {ω : Wd} {H : Hp} {σ : St} {env : DEnv} {st : DSto}
mutual
theorem Rep.setOwn {p : Addr} {xs ys : List V} (hb : p ∈ ω.busy) (h : H p = some (.lst xs)) : ∀ {v : V} {d : D}, Rep K mg ω H v d → Rep K mg ω (upd H p (.lst ys)) v d
  | _, _, r => r.setPhi hb h
end
theorem own_set (R : RepS K mg ω H σ env st) {n : Nat} {ds es : List D} {a : Addr} {ys : List V} (hn : st[n]? = some (true, ds)) (ha : ω.ads[n]? = some a) (r : Reps K mg ω H ys es) : Ext ω H ω (upd H a (.lst ys)) ∧ RepS K mg ω (upd H a (.lst ys)) σ env (st.set n (true, es)) := by
  obtain ⟨a', xs, q1, q2, q3, q4, q5⟩ := R.s.2 n true ds hn
  rw [ha] at q1
  cases q1
  have hl := q4 rfl
  have hm : a ∈ ω.mut := List.mem_append_left _ hl
  have hb : a ∈ ω.busy := mem_busy.mpr (.inl hm)
  have nd := R.w.nd
  have npo : a ∉ ω.phi := fun z => (List.nodup_append.mp nd).2.2 a hm a z rfl
  have ngs : a ∉ ω.gs := fun z => (List.nodup_append.mp (List.nodup_append.mp nd).1).2.2 a hl a z rfl
  have lst : ∀ b, (∃ zs, H b = some (.lst zs)) → ∃ zs, upd H a (.lst ys) b = some (.lst zs) := fun b ⟨zs, z⟩ => by
    by_cases e : b = a
    · exact ⟨ys, by rw [e, upd_same]⟩
    · exact ⟨zs, by rw [upd_ne e]; exact z⟩
  have w' : WOk ω (upd H a (.lst ys)) := by
    refine ⟨R.w.nd, R.w.nda, fun b hb => lst b (R.w.all b hb), R.w.sub, fun q hq => ?_, fun b hb => lst b (R.w.out b hb)⟩
    obtain ⟨m, cs, h1, h2, r⟩ := R.w.dls q hq
    have n1 : q.1 ≠ a := fun e => ngs (List.mem_append_left _ (e ▸ List.mem_map_of_mem hq))
    have n2 : q.2 ≠ a := fun e => ngs (List.mem_append_right _ (e ▸ List.mem_map_of_mem hq))
    exact ⟨m, cs, by rw [upd_ne n1]; exact h1, by rw [upd_ne n2]; exact h2, r⟩
  refine ⟨⟨⟨[], by simp⟩, ⟨[], by simp⟩, rfl, fun b o e n => ⟨by rw [upd_ne (fun z : b = a => n (z ▸ hm))]; exact e, n⟩⟩, w', ⟨R.e.1, fun i x q => ?_⟩, by rw [List.length_set]; exact R.s.1, fun m b fs q => ?_⟩
  · obtain ⟨v, h1, h2⟩ := R.e.2 i x q
    refine ⟨v, h1, ?_⟩
    cases h2 with
    | loc e => exact .loc e
    | dat rr => exact .dat (rr.setPhi hb q2)
  · by_cases hmn : n = m
    · subst hmn
      have hlt : n < st.length := (List.getElem?_eq_some_iff.mp hn).1
      rw [List.getElem?_set_self hlt] at q
      cases q
      exact ⟨a, ys, ha, upd_same, r.setPhi hb q2, fun _ => hl, fun z => by cases z⟩
    · rw [List.getElem?_set_ne hmn] at q
      obtain ⟨c, zs, p1, p2, p3, p4, p5⟩ := R.s.2 m b fs q
      have ne : c ≠ a := fun e => by
        subst e
        exact hmn (use_rep.nodup_ix' R.w.nda ha p1)
      exact ⟨c, zs, p1, by rw [upd_ne ne]; exact p2, p3.setPhi hb q2, p4, p5⟩
end
/-- the own list that may change -/
def ownX (st : DSto) : Va → Option (Nat × List D)
  | .loc n => match st[n]? with
    | some (true, ds) => some (n, ds)
    | _ => none
  | .dat _ => none
section
variable {X : Cx} {W : WX} {mg : Str → Option Value} {o e : Expr} {to te : LE} {apos cpos : Pos}
theorem ownX_rep {K : PySem.W.Frag} {ω : Wd} {H : Hp} {σ : St} {env : DEnv} {st : DSto} (R : RepS K mg ω H σ env st) {v : V} {x : Va} (r : RepV K mg ω H v x) {n : Nat} {ds : List D} (h : ownX st x = some (n, ds)) :
    x = .loc n ∧ st[n]? = some (true, ds) ∧ ∃ a xs, v = .ref a ∧ ω.ads[n]? = some a ∧ H a = some (.lst xs) ∧ Reps K mg ω H xs ds := by
  cases r with
  | dat r => cases h
  | loc e =>
    rename_i a m
    simp only [ownX] at h
    split at h
    · rename_i es hs
      cases h
      obtain ⟨a', xs, q1, q2, q3, _⟩ := R.s.2 _ _ _ hs
      rw [e] at q1
      cases q1
      exact ⟨rfl, hs, a, xs, rfl, e, q2, q3⟩
    · cases h
theorem _root_.List.getElem?_append_some {l l' : List Addr} (e : ∃ m, l' = l ++ m) {n : Nat} {a : Addr} (h : l[n]? = some a) : l'[n]? = some a := by
  obtain ⟨m, e⟩ := e
  rw [e, List.getElem?_append_left (List.getElem?_eq_some_iff.mp h).1]
  exact h
def appX (n : Nat) (Qd : QV) (ys : List Va) (st : DSto) : Prop := match ys with | [y] => use y st (fun d s3 => ∃ m ds, ownX s3 (.loc n) = some (m, ds) ∧ ds.length < sizeLine ∧ Qd (.dat .non) (s3.set m (true, ds ++ [d]))) | _ => False
theorem appEnd {K : PySem.W.Frag} {ω : Wd} {H : Hp} {σ : St} {env : DEnv} {st : DSto} {vs : List V} {ys : List Va} {a : Addr} {n : Nat} {Q : VK} {Qd : QV} (R : RepS K mg ω H σ env st) (r : RepVs K mg ω H vs ys) (rl : RepV K mg ω H (.ref a) (.loc n))
    (h : appX n Qd ys st)
    (hQ : ∀ d st' ω' H' v, Ext ω H ω' H' → RepS K mg ω' H' σ env st' → RepV K mg ω' H' v d → Qd d st' → Q v H') : rAppend (.ref a) vs H Q := by
  cases r with
  | nil => exact h.elim
  | cons r1 r2 =>
    cases r2 with
    | cons _ _ => exact h.elim
    | nil =>
      simp only [appX] at h
      obtain ⟨d, s2, ω2, e2, R2, r2, t2⟩ := use_rep R r1 h
      obtain ⟨m, ds, hm, t2⟩ := t2
      · obtain ⟨he, hn, a', xs, hv, ha1, hx, rx⟩ := ownX_rep R2 (rl.mono e2 R.w) hm
        cases he
        cases hv
        refine ⟨a, xs, _, rfl, rfl, hx, by rw [rx.length]; exact t2.1, ?_⟩
        obtain ⟨e3, R3⟩ := own_set R2 hn ha1 (rx.append (.cons r2 .nil))
        exact hQ _ _ ω2 _ _ (e2.trans e3) R3 (.dat .non) t2.2
/-- xs.append(e) -/
theorem up_append (ho : PE X o (upE X.K mg W to)) (ha : PA X [e] (upA X.K mg W fun env st Q E => te env st (fun x s => Q [x] s) E)) (hbase : attributeBase o "append" X.env (eval o X.env) = eval o X.env)
    (hfew : ((backTo cpos (starEach [e] X.env)).all (fun x => !x.1) && (backToKw cpos (keywordEach [] X.env)).all (fun x => x.1.isSome) && decide (([e] : List Expr).length + ([] : List Keyword).length + (if ([] : List Keyword).isEmpty then 0 else 1) < 30)) = true)
    (hline : (apos.endLine == cpos.line) = true) (hs : starEach [e] X.env = (false, eval e X.env) :: starEach [] X.env) :
    PE X (.Call (.Attribute o "append" apos) [e] [] cpos) (upE X.K mg W fun env st Q E => to env st (fun x s1 => (ownX s1 x).isSome = true ∧ te env s1 (fun y s2 => use y s2 fun d s3 => ∃ n ds, ownX s3 x = some (n, ds) ∧ ds.length < sizeLine ∧ Q (.dat .non) (s3.set n (true, ds ++ [d]))) E) E) := by
  refine (pe_bm PySem.F.plainAttrs_list PySem.F.slot_list_append PySem.F.type_list_append mt_append ho ha hbase hfew hline hs rfl).imp fun σ H Q ⟨ω, env, st, Qd, Ed, R, t0, hQ, hE⟩ => ?_
  refine ⟨ω, env, st, _, Ed, R, t0, fun x s1 ω1 H1 v e1 R1 r1 t1 => ?_, hE⟩
  obtain ⟨h1, t1⟩ := t1
  obtain ⟨⟨n0, ds0⟩, h1⟩ := Option.isSome_iff_exists.mp h1
  obtain ⟨rfl, hn, a, xs, rfl, ha1, hx, rx⟩ := ownX_rep R1 r1 h1
  refine ⟨.inl ⟨rfl, xs, SqL.of hx⟩, ω1, env, s1, appX n0 Qd, Ed, R1, t1, fun ys s2 ω2 H2 vs e2 R2 r2 t2 => ?_, hE.mono e1⟩
  exact appEnd R2 r2 (.loc (List.getElem?_append_some e2.ads ha1)) t2 fun d st' ω' H' v e R r q => hQ d st' ω' H' v ((e1.trans e2).trans e) R r q
/-- xs.pop() -/
theorem up_pop (ho : PE X o (upE X.K mg W to)) (hbase : attributeBase o "pop" X.env (eval o X.env) = eval o X.env) (hline : (apos.endLine == cpos.line) = true) :
    PE X (.Call (.Attribute o "pop" apos) [] [] cpos) (upE X.K mg W fun env st Q E => to env st (fun x s1 => ∃ n ds d, ownX s1 x = some (n, ds ++ [d]) ∧ Q (.dat d) (s1.set n (true, ds))) E) := by
  refine (pe_bm0 PySem.F.plainAttrs_list PySem.F.slot_list_pop PySem.F.type_list_pop mt_pop ho hbase hline).imp fun σ H Q ⟨ω, env, st, Qd, Ed, R, t0, hQ, hE⟩ => ?_
  refine ⟨ω, env, st, _, Ed, R, t0, fun x s1 ω1 H1 v e1 R1 r1 t1 => ?_, hE⟩
  obtain ⟨n, es, d, h1, t1⟩ := t1
  have hd : (es ++ [d])[(es ++ [d]).length - 1]? = some d := by simp
  have hdl : (es ++ [d]).dropLast = es := by simp
  rw [← hdl] at t1
  generalize es ++ [d] = ds at h1 hd t1
  obtain ⟨rfl, hn, a, xs, rfl, ha1, hx, rx⟩ := ownX_rep R1 r1 h1
  obtain ⟨w, hw, rw'⟩ := rx.get hd
  rw [← rx.length] at hw
  refine ⟨.inl ⟨rfl, xs, SqL.of hx⟩, a, xs, w, rfl, rfl, hx, hw, ?_⟩
  have rdl : Reps X.K mg ω1 H1 xs.dropLast ds.dropLast := by
    rw [List.dropLast_eq_take, List.dropLast_eq_take, rx.length]
    exact rx.take _
  obtain ⟨e3, R3⟩ := own_set R1 hn ha1 rdl
  refine hQ _ _ ω1 _ _ (e1.trans e3) R3 (.dat ?_) t1
  have hb : a ∈ ω1.busy := by
    obtain ⟨a', zs, q1, q2, q3, q4, q5⟩ := R1.s.2 n true ds hn
    rw [ha1] at q1
    cases q1
    exact mem_busy.mpr (.inl (List.mem_append_left _ (q4 rfl)))
  exact rw'.setPhi hb hx
end
end Pd

/-! Pd: list(zip(t1, t2)) of two tuples. -/
namespace RZ
open PySem
open PySem.Sem (wp)
section
variable {prog : Program} {w : World} {A : Around} {E : Value → Shared → Prop} {s : Shared}
theorem zipT_next_item_held {z TI TO T i1 i2 l1 l2 : Addr} {f : Bool} {oT : Obj} {k1 k2 : Nat} {xs ys : Array Value} {x y : Value} {Q : Value → Shared → Prop} (D : ZipApart z TI TO i1 i2 l1 l2)
    (hz : IsZipHeld s.heap z TI TO T f) (hT : s.heap.get? T = some oT) (hTI : IsPair s.heap TI (.ref i1) (.ref i2))
    (h1 : s.heap.IsTupleIter i1 l1 k1) (h2 : s.heap.IsTupleIter i2 l2 k2) (hl1 : s.heap.IsTuple l1 xs) (hl2 : s.heap.IsTuple l2 ys) (hx : xs[k1]? = some x) (hy : ys[k2]? = some y)
    (hQ : ∀ h', IsZipHeld h' z TI TO T true → h'.IsTupleIter i1 l1 (k1 + 1) → h'.IsTupleIter i2 l2 (k2 + 1) → IsPair h' s.heap.objs.size x y → h'.objs.size = s.heap.objs.size + 1 →
      (∀ c o, c ≠ z → c ≠ i1 → c ≠ i2 → s.heap.get? c = some o → h'.get? c = some o) → Q (.ref s.heap.objs.size) { s with heap := h' }) :
    wpAny (model prog w) A (Builtin.«zip.__next__» ⟨[.ref z], []⟩) (fun fin s' => ∃ v, fin = .done (.ret v) ∧ Q v s') E s := by
  show wpAny _ _ (field (.ref z) 2 >>= _) _ _ _
  refine wpAny_bind (wpAny_field hz rfl (x := .bool false) rfl ?_)
  show wpAny _ _ (field (.ref z) 3 >>= _) _ _ _
  refine wpAny_bind (wpAny_field hz rfl (x := .ref TI) rfl ?_)
  refine wpAny_bind (wpAny_seqItems hTI rfl ?_)
  show wpAny _ _ (Builtin.SmallTypes.ownedTupleIsFree (.ref z) >>= _) _ _ _
  refine wpAny_bind (wpAny_tupleHeld_zip hz hT fun h₁ hz₁ hs₁ => ?_)
  simp only [Bool.false_eq_true, if_false]
  refine wpAny_bind ?_
  rw [← Array.forIn_toList]
  simp only [List.forIn_cons, List.forIn_nil]
  refine wpAny_bind (wpAny_bind (wpAny_holding ?_))
  show wpAny _ _ (Builtin.SmallTypes.nextOf (.ref i1) >>= _) _ _ _
  refine wpAny_bind (nextOf_tuple_item (s := { s with heap := h₁ }) (h1.extBut hs₁.extBut D.i1z) (hl1.extBut hs₁.extBut D.l1z) hx fun h₂ h1₂ hs₂ => wpAny_pure ?_)
  refine wpAny_pure ?_
  refine wpAny_bind (wpAny_bind (wpAny_holding ?_))
  show wpAny _ _ (Builtin.SmallTypes.nextOf (.ref i2) >>= _) _ _ _
  refine wpAny_bind (nextOf_tuple_item (s := { s with heap := h₂ }) ((h2.extBut hs₁.extBut D.i2z).extBut hs₂.extBut D.i12.symm) ((hl2.extBut hs₁.extBut D.l2z).extBut hs₂.extBut D.l2i1) hy fun h₃ h2₃ hs₃ => wpAny_pure ?_)
  refine wpAny_pure (wpAny_pure ?_)
  show wpAny _ _ (newTuple [x, y] >>= _) _ _ _
  refine wpAny_bind (wpAny_newTuple ?_)
  have hsz : h₃.objs.size = s.heap.objs.size := by rw [hs₃.1, hs₂.1, hs₁.1]
  have hz₃ : IsZipHeld h₃ z TI TO T true := hs₃.extBut _ _ D.i2z.symm (hs₂.extBut _ _ D.i1z.symm hz₁)
  have hk : ∀ c o, c ≠ z → c ≠ i1 → c ≠ i2 → s.heap.get? c = some o → h₃.get? c = some o := fun c o c1 c2 c3 e => hs₃.extBut _ _ c3 (hs₂.extBut _ _ c2 (hs₁.extBut _ _ c1 e))
  have h1₃ : h₃.IsTupleIter i1 l1 (k1 + 1) := h1₂.extBut hs₃.extBut D.i12
  refine wpAny_pure ⟨_, rfl, ?_⟩
  show Q (.ref h₃.objs.size) _
  have hp : IsPair (h₃.push { cls := .type "tuple", data := .seq #[x, y] }) h₃.objs.size x y := Heap.get?_push_size _ rfl
  have hz4 : (h₃.push { cls := .type "tuple", data := .seq #[x, y] }).objs.size = h₃.objs.size + 1 := Heap.size_push ..
  rw [hsz] at hp hz4 ⊢
  exact hQ _ (Heap.get?_push_of_some _ hz₃) (h1₃.at fun o e => Heap.get?_push_of_some _ e) (h2₃.at fun o e => Heap.get?_push_of_some _ e) hp hz4 fun c o c1 c2 c3 e => Heap.get?_push_of_some _ (hk c o c1 c2 c3 e)
theorem zipT_next_end_held {z TI TO T i1 i2 l1 l2 : Addr} {f : Bool} {oT : Obj} {k1 k2 : Nat} {xs ys : Array Value} {Q : Fin → Shared → Prop} (hh : A.handled = none) (D : ZipApart z TI TO i1 i2 l1 l2)
    (hz : IsZipHeld s.heap z TI TO T f) (hT : s.heap.get? T = some oT) (hTI : IsPair s.heap TI (.ref i1) (.ref i2))
    (h1 : s.heap.IsTupleIter i1 l1 k1) (h2 : s.heap.IsTupleIter i2 l2 k2) (hl1 : s.heap.IsTuple l1 xs) (hl2 : s.heap.IsTuple l2 ys) (hend : xs[k1]? = none ∨ ys[k2]? = none)
    (hE : ∀ h' e, (∀ c o, c ≠ z → c ≠ i1 → c ≠ i2 → s.heap.get? c = some o → h'.get? c = some o) → (∃ o, h'.get? e = some o ∧ o.cls = .type "StopIteration") → E (.ref e) { s with heap := h' }) :
    wpAny (model prog w) A (Builtin.«zip.__next__» ⟨[.ref z], []⟩) Q E s := by
  show wpAny _ _ (field (.ref z) 2 >>= _) _ _ _
  refine wpAny_bind (wpAny_field hz rfl (x := .bool false) rfl ?_)
  show wpAny _ _ (field (.ref z) 3 >>= _) _ _ _
  refine wpAny_bind (wpAny_field hz rfl (x := .ref TI) rfl ?_)
  refine wpAny_bind (wpAny_seqItems hTI rfl ?_)
  show wpAny _ _ (Builtin.SmallTypes.ownedTupleIsFree (.ref z) >>= _) _ _ _
  refine wpAny_bind (wpAny_tupleHeld_zip hz hT fun h₁ hz₁ hs₁ => ?_)
  simp only [Bool.false_eq_true, if_false]
  refine wpAny_bind ?_
  rw [← Array.forIn_toList]
  simp only [List.forIn_cons, List.forIn_nil]
  refine wpAny_bind (wpAny_bind (wpAny_holding ?_))
  show wpAny _ _ (Builtin.SmallTypes.nextOf (.ref i1) >>= _) _ _ _
  cases hx : xs[k1]? with
  | none =>
    refine wpAny_bind (nextOf_tuple_end (s := { s with heap := h₁ }) hh (h1.extBut hs₁.extBut D.i1z) (hl1.extBut hs₁.extBut D.l1z) hx fun h₂ e hs₂ he => ?_)
    exact hE h₂ e (fun c o c1 c2 _ x => hs₂ _ _ c2 (hs₁.extBut _ _ c1 x)) he
  | some x =>
    have hy : ys[k2]? = none := by rcases hend with h | h; rw [hx] at h; cases h; exact h
    refine wpAny_bind (nextOf_tuple_item (s := { s with heap := h₁ }) (h1.extBut hs₁.extBut D.i1z) (hl1.extBut hs₁.extBut D.l1z) hx fun h₂ h1₂ hs₂ => wpAny_pure ?_)
    refine wpAny_pure ?_
    refine wpAny_bind (wpAny_bind (wpAny_holding ?_))
    show wpAny _ _ (Builtin.SmallTypes.nextOf (.ref i2) >>= _) _ _ _
    refine wpAny_bind (nextOf_tuple_end (s := { s with heap := h₂ }) hh ((h2.extBut hs₁.extBut D.i2z).extBut hs₂.extBut D.i12.symm) ((hl2.extBut hs₁.extBut D.l2z).extBut hs₂.extBut D.l2i1) hy fun h₃ e hs₃ he => ?_)
    exact hE h₃ e (fun c o c1 c2 c3 x => hs₃ _ _ c3 (hs₂.extBut _ _ c2 (hs₁.extBut _ _ c1 x))) he
theorem pyNext_zipT_item_held {z TI TO T i1 i2 l1 l2 : Addr} {f : Bool} {oT : Obj} {k1 k2 : Nat} {xs ys : Array Value} {x y : Value} {Q : Option Value → Shared → Prop} (D : ZipApart z TI TO i1 i2 l1 l2)
    (hz : IsZipHeld s.heap z TI TO T f) (hT : s.heap.get? T = some oT) (hTI : IsPair s.heap TI (.ref i1) (.ref i2))
    (h1 : s.heap.IsTupleIter i1 l1 k1) (h2 : s.heap.IsTupleIter i2 l2 k2) (hl1 : s.heap.IsTuple l1 xs) (hl2 : s.heap.IsTuple l2 ys) (hx : xs[k1]? = some x) (hy : ys[k2]? = some y)
    (hQ : ∀ h', IsZipHeld h' z TI TO T true → h'.IsTupleIter i1 l1 (k1 + 1) → h'.IsTupleIter i2 l2 (k2 + 1) → IsPair h' s.heap.objs.size x y → h'.objs.size = s.heap.objs.size + 1 →
      (∀ c o, c ≠ z → c ≠ i1 → c ≠ i2 → s.heap.get? c = some o → h'.get? c = some o) → Q (some (.ref s.heap.objs.size)) { s with heap := h' }) :
    wpAny (model prog w) A (pyNext (.ref z)) Q E s := by
  have hTy : s.TypeIs (.ref z) "zip" := ⟨_, hz, rfl⟩
  unfold pyNext
  exact wpAny_bind (wpAny_attempt (wpAny_callSpecial?_slot (name := Str.ofString "__next__") hTy F.slot_zip_next
    (wpAny_call_entry F.slot_zip_next hTy F.entry_zip_next
      (zipT_next_item_held D hz hT hTI h1 h2 hl1 hl2 hx hy fun h' a1 a3 a4 a5 a6 a7 => wpAny_pure (hQ h' a1 a3 a4 a5 a6 a7)) (F.args_zip_next_1 _))))
theorem pyNext_zipT_end_held {z TI TO T i1 i2 l1 l2 : Addr} {f : Bool} {oT : Obj} {k1 k2 : Nat} {xs ys : Array Value} {Q : Option Value → Shared → Prop} (hh : A.handled = none) (D : ZipApart z TI TO i1 i2 l1 l2)
    (hz : IsZipHeld s.heap z TI TO T f) (hT : s.heap.get? T = some oT) (hTI : IsPair s.heap TI (.ref i1) (.ref i2))
    (h1 : s.heap.IsTupleIter i1 l1 k1) (h2 : s.heap.IsTupleIter i2 l2 k2) (hl1 : s.heap.IsTuple l1 xs) (hl2 : s.heap.IsTuple l2 ys) (hend : xs[k1]? = none ∨ ys[k2]? = none)
    (hQ : ∀ h', (∀ c o, c ≠ z → c ≠ i1 → c ≠ i2 → s.heap.get? c = some o → h'.get? c = some o) → Q none { s with heap := h' }) : wpAny (model prog w) A (pyNext (.ref z)) Q E s := by
  have hTy : s.TypeIs (.ref z) "zip" := ⟨_, hz, rfl⟩
  unfold pyNext
  refine wpAny_bind (wpAny_attempt (wpAny_callSpecial?_slot (name := Str.ofString "__next__") hTy F.slot_zip_next
    (wpAny_call_entry F.slot_zip_next hTy F.entry_zip_next (zipT_next_end_held hh D hz hT hTI h1 h2 hl1 hl2 hend fun h' e hk he => ?_) (F.args_zip_next_1 _))))
  obtain ⟨o, ho, hc⟩ := he
  refine wpAny_bind (wpAny_isInstance (T := "StopIteration") (b := true) ⟨o, ho, hc⟩ isSubtype_stop ?_)
  exact wpAny_pure (hQ _ hk)
end

/-! ### the loop of list(zip(..)) -/
structure ZS (h : Heap) (z TI TO i1 i2 a b S : Addr) (xs ys : Array Value) (i : Nat) : Prop where
  ti : IsPair h TI (.ref i1) (.ref i2)
  t1 : h.IsTupleIter i1 a i
  t2 : h.IsTupleIter i2 b i
  l1 : h.IsTuple a xs
  l2 : h.IsTuple b ys
  st : (IsZip h z TI TO .none ∧ ∃ p q, IsPair h TO p q) ∨ ∃ T f oT, IsZipHeld h z TI TO T f ∧ h.get? T = some oT ∧ T ≠ z ∧ T ≠ i1 ∧ T ≠ i2 ∧ T ≠ S
structure MadeZ (xs ys : Array Value) (lo : Addr) (h : Heap) (as : List Addr) : Prop where
  rise : as.Pairwise (· < ·)
  above : ∀ c ∈ as, lo ≤ c
  pairs : ∀ (j : Nat) (c : Addr), as[j]? = some c → ∃ x y, xs[j]? = some x ∧ ys[j]? = some y ∧ h.get? c = some { cls := .type "tuple", data := .seq #[x, y] }
section
variable {prog : Program} {w : World} {A : Around} {s : Shared} {R : Result → Shared → Prop}
theorem MadeZ.there {xs ys : Array Value} {lo : Addr} {h : Heap} {as : List Addr} (g : MadeZ xs ys lo h as) {a : Addr} (ha : a ∈ as) : a < h.objs.size := by
  obtain ⟨j, hj⟩ := List.mem_iff_getElem?.mp ha
  obtain ⟨_, _, _, _, e⟩ := g.pairs j a hj
  exact Heap.lt_size e
theorem loopZ {z TI TO i1 i2 a b S lo : Addr} {xs ys : Array Value} (hh : A.handled = none) (D : ZipApart z TI TO i1 i2 a b) (hn : xs.size ≤ sizeLine) (res : Value)
    (lz : z < lo) (lTI : TI < lo) (lTO : TO < lo) (l1 : i1 < lo) (l2 : i2 < lo) (la : a < lo) (lb : b < lo) (lS : S < lo) (nz : z ≠ S) (nTI : TI ≠ S) (nTO : TO ≠ S) (n1 : i1 ≠ S) (n2 : i2 ≠ S) (na : a ≠ S) (nb : b ≠ S) {h₁ : Heap} (hsz : xs.size = ys.size)
    (hR : ∀ h' tk acc c as, (∀ d o, d ≠ S → d ≠ z → d ≠ TO → d ≠ i1 → d ≠ i2 → h₁.get? d = some o → h'.get? d = some o) → h'.get? S = some { cls := .type "list", dict := none, data := .seq acc c, slots := #[] } → as.length = xs.size → MadeZ xs ys lo h' as →
      acc.toList = as.map Value.ref → R (.ok (.ret res)) { s with heap := h', toks := tk }) :
    ∀ (k i : Nat) (h : Heap) (tk c : Nat) (acc : Array Value) (as : List Addr), xs.size - i = k → i ≤ xs.size → ZS h z TI TO i1 i2 a b S xs ys i → (∀ d o, d ≠ S → d ≠ z → d ≠ TO → d ≠ i1 → d ≠ i2 → h₁.get? d = some o → h.get? d = some o) →
      h.get? S = some { cls := .type "list", dict := none, data := .seq acc c, slots := #[] } → acc.toList = as.map Value.ref → as.length = i → MadeZ xs ys lo h as → lo ≤ h.objs.size →
      codeAny (model prog w) A (.builtin "list.extend.loop" ⟨[.ref S, .ref z, res], []⟩) R { s with heap := h, toks := tk } := by
  intro k
  induction k with
  | zero =>
    intro i h tk c acc as hk hi hst hkeep hS hacc hal hG hlo
    have hi2 : i = xs.size := by omega
    refine codeAny_builtin PySem.F.entry_extend_loop ?_
    rw [Around.under_plainId PySem.F.plain_extend_loop _]
    show wpAny _ A.in1 (pyNext (.ref z) >>= _) _ _ _
    have fin : ∀ h', (∀ c o, c ≠ z → c ≠ TO → c ≠ i1 → c ≠ i2 → h.get? c = some o → h'.get? c = some o) → R (.ok (.ret res)) { s with heap := h', toks := tk } := fun h' he => by
      refine hR h' tk acc c as (fun d o q1 q2 q3 q4 q5 e => he d o q2 q3 q4 q5 (hkeep d o q1 q2 q3 q4 q5 e)) (he S _ nz.symm nTO.symm n1.symm n2.symm hS) (by omega) ⟨hG.rise, hG.above, fun j e hj => ?_⟩ hacc
      obtain ⟨x, y, e1, e2, e3⟩ := hG.pairs j e hj
      have la := hG.above e (List.mem_of_getElem? hj)
      exact ⟨x, y, e1, e2, he e _ (Nat.ne_of_gt (Nat.lt_of_lt_of_le lz la)) (Nat.ne_of_gt (Nat.lt_of_lt_of_le lTO la)) (Nat.ne_of_gt (Nat.lt_of_lt_of_le l1 la)) (Nat.ne_of_gt (Nat.lt_of_lt_of_le l2 la)) e3⟩
    have hend : xs[i]? = none ∨ ys[i]? = none := .inl (Array.getElem?_eq_none (by omega))
    rcases hst.st with ⟨hz, p, q, hTO⟩ | ⟨T, f, oT, hz, hT, r1, r2, r3, r4⟩
    · refine wpAny_bind (pyNext_zipT_end (s := { s with heap := h, toks := tk }) (A := A.in1) hh D hz hst.ti hTO hst.t1 hst.t2 hst.l1 hst.l2 hend fun h' he => wpAny_pure ?_)
      exact fin h' he
    · refine wpAny_bind (pyNext_zipT_end_held (s := { s with heap := h, toks := tk }) (A := A.in1) hh D hz hT hst.ti hst.t1 hst.t2 hst.l1 hst.l2 hend fun h' he => wpAny_pure ?_)
      exact fin h' fun c o q1 q2 q3 q4 e => he c o q1 q3 q4 e
  | succ k ih =>
    intro i h tk c acc as hk hi hst hkeep hS hacc hal hG hlo
    have hlt : i < xs.size := by omega
    have hlt2 : i < ys.size := by omega
    have hasz : acc.size = i := by rw [← Array.length_toList, hacc, List.length_map, hal]
    have ex : xs[i]? = some xs[i] := Array.getElem?_eq_getElem hlt
    have ey : ys[i]? = some ys[i] := Array.getElem?_eq_getElem hlt2
    refine codeAny_builtin PySem.F.entry_extend_loop ?_
    rw [Around.under_plainId PySem.F.plain_extend_loop _]
    show wpAny _ A.in1 (pyNext (.ref z) >>= _) _ _ _
    have lo1 : ∀ {d}, d < lo → d ≠ h.objs.size := fun q => Nat.ne_of_lt (Nat.lt_of_lt_of_le q hlo)
    have step : ∀ h', h'.IsTupleIter i1 a (i + 1) → h'.IsTupleIter i2 b (i + 1) → IsPair h' h.objs.size xs[i] ys[i] → h'.objs.size = h.objs.size + 1 → (∀ d o, d ≠ z → d ≠ TO → d ≠ i1 → d ≠ i2 → h.get? d = some o → h'.get? d = some o) →
        (∀ h2 : Heap, (∀ d o, d ≠ S → h'.get? d = some o → h2.get? d = some o) → (IsZip h2 z TI TO .none ∧ ∃ p q, IsPair h2 TO p q) ∨ ∃ T f oT, IsZipHeld h2 z TI TO T f ∧ h2.get? T = some oT ∧ T ≠ z ∧ T ≠ i1 ∧ T ≠ i2 ∧ T ≠ S) →
        wpAny (model prog w) A.in1 (updateSeq S (·.push (Value.ref h.objs.size)) >>= fun _ => again (.builtin "list.extend.loop" ⟨[.ref S, .ref z, res], []⟩)) (fun fin s' => match fin with | .done f => R (.ok f) s' | .again c' => c'.quiet = true ∧ codeAny (model prog w) A c' R s') (fun e s' => R (.error e) s') { s with heap := h', toks := tk } := by
      intro h' t1' t2' hp hsz' hkp hst'
      have hS' := hkp S _ nz.symm nTO.symm n1.symm n2.symm hS
      have up : ∀ d o, d ≠ S → h'.get? d = some o → (h'.update S (Obj.mapSeq (·.push (Value.ref h.objs.size)))).get? d = some o := fun d o hb e => (Heap.get?_update_other _ _ (Ne.symm hb)).trans e
      refine wpAny_bind ?_
      refine wpAny_updateSeq hS' rfl (wpAny_pure ⟨plainId_quiet PySem.F.plain_extend_loop _, ih (i + 1) _ tk _ (acc.push (Value.ref h.objs.size)) (as ++ [h.objs.size]) (by omega) hlt ⟨?_, ?_, ?_, ?_, ?_, ?_⟩
        (fun d o q1 q2 q3 q4 q5 e => up d o q1 (hkp d o q2 q3 q4 q5 (hkeep d o q1 q2 q3 q4 q5 e))) (Heap.get?_update_self _ hS' rfl) (by rw [Array.toList_push, hacc, List.map_append]; rfl) (by rw [List.length_append, hal]; rfl) ⟨?_, ?_, ?_⟩ ?_⟩) (by rw [hasz]; omega) (by show (acc.push (Value.ref h.objs.size)).size ≤ sizeLine + 1; rw [Array.size_push, hasz]; omega)
      · exact up _ _ nTI (hkp _ _ D.TIz D.TITO D.TIi1 D.TIi2 hst.ti)
      · exact t1'.at fun o e => up _ o n1 e
      · exact t2'.at fun o e => up _ o n2 e
      · exact hst.l1.at fun o e => up _ o na (hkp _ o D.l1z D.l1TO D.l1i1 D.l1i2 e)
      · exact hst.l2.at fun o e => up _ o nb (hkp _ o D.l2z D.l2TO D.l2i1 D.l2i2 e)
      · exact hst' _ up
      · refine List.pairwise_append.mpr ⟨hG.rise, List.pairwise_singleton _ _, fun a ha b hb => ?_⟩
        rw [List.mem_singleton.mp hb]
        exact hG.there ha
      · intro d hd
        rcases List.mem_append.mp hd with hd | hd
        · exact hG.above d hd
        · rw [List.mem_singleton.mp hd]; exact hlo
      · intro j d hj
        rcases Nat.lt_trichotomy j as.length with q | q | q
        · rw [List.getElem?_append_left q] at hj
          obtain ⟨x, y, e1, e2, e3⟩ := hG.pairs j d hj
          have hb := hG.above d (List.mem_of_getElem? hj)
          have gt : ∀ {c}, c < lo → d ≠ c := fun q => Nat.ne_of_gt (Nat.lt_of_lt_of_le q hb)
          exact ⟨x, y, e1, e2, up d _ (gt lS) (hkp d _ (gt lz) (gt lTO) (gt l1) (gt l2) e3)⟩
        · subst q
          have hb : h.objs.size = d := by simpa using hj
          subst hb
          subst hal
          exact ⟨_, _, ex, ey, up _ _ (lo1 lS).symm hp⟩
        · have hnone : (as ++ [h.objs.size])[j]? = none := List.getElem?_eq_none (by rw [List.length_append, List.length_singleton]; omega)
          rw [hnone] at hj; cases hj
      · show lo ≤ (h'.update S _).objs.size
        have e : (h'.update S (Obj.mapSeq (·.push (Value.ref h.objs.size)))).get? h.objs.size = _ := up _ _ (lo1 lS).symm hp
        exact Nat.le_trans hlo (Nat.le_of_lt (Heap.lt_size e))
    rcases hst.st with ⟨hz, p, q, hTO⟩ | ⟨T, f, oT, hz, hT, r1, r2, r3, r4⟩
    · refine wpAny_bind (pyNext_zipT_item (s := { s with heap := h, toks := tk }) (A := A.in1) D hz hst.ti hTO hst.t1 hst.t2 hst.l1 hst.l2 ex ey fun h' a1 a2 a3 a4 a5 a6 hkp => ?_)
      refine step h' a3 a4 a5 a6 hkp fun h2 up2 => .inr ⟨h.objs.size, false, _, up2 _ _ nz a1, up2 _ _ (lo1 lS).symm a5, (lo1 lz).symm, (lo1 l1).symm, (lo1 l2).symm, (lo1 lS).symm⟩
    · refine wpAny_bind (pyNext_zipT_item_held (s := { s with heap := h, toks := tk }) (A := A.in1) D hz hT hst.ti hst.t1 hst.t2 hst.l1 hst.l2 ex ey fun h' a1 a3 a4 a5 a6 hkp => ?_)
      refine step h' a3 a4 a5 a6 (fun d o q1 q2 q3 q4 e => hkp d o q1 q3 q4 e) fun h2 up2 => .inr ⟨T, true, oT, up2 _ _ nz a1, up2 _ _ r4 (hkp _ _ r1 r2 r3 hT), r1, r2, r3, r4⟩
end
end RZ

/-! Pd: list(zip(t1, t2)) of two tuples, the expression. -/
namespace RZ
open PySem PySem.Spec PyProof.Rows L2
theorem zip_no_len : typeLookup (.type "zip") "__len__" = pure none := am_miss_of_fast (by decide +kernel)
theorem zip_no_hint : typeLookup (.type "zip") "__length_hint__" = pure none := am_miss_of_fast (by decide +kernel)
section
variable {prog : Program} {w : World} {A : Around} {E : Value → Shared → Prop} {s : Shared}
theorem call_list_zip {z TI TO i1 i2 a b : Addr} {xs ys : Array Value} {Q : Value → Shared → Prop} (hh : A.handled = none) (D : ZipApart z TI TO i1 i2 a b) (hn : xs.size ≤ sizeLine) (hsz : xs.size = ys.size)
    (hz : IsZip s.heap z TI TO .none) (hTI : IsPair s.heap TI (.ref i1) (.ref i2)) (hTO : IsPair s.heap TO .none .none) (h1 : s.heap.IsTupleIter i1 a 0) (h2 : s.heap.IsTupleIter i2 b 0) (ha : s.heap.IsTuple a xs) (hb : s.heap.IsTuple b ys)
    (hQ : ∀ h' tk acc c as, (∀ d o, d ≠ z → d ≠ TO → d ≠ i1 → d ≠ i2 → s.heap.get? d = some o → h'.get? d = some o) → h'.get? s.heap.objs.size = some (lstObj acc c) → as.length = xs.size → MadeZ xs ys (s.heap.objs.size + 1) h' as →
      acc.toList = as.map Value.ref → Q (.ref s.heap.objs.size) { s with heap := h', toks := tk }) :
    wpAny (model prog w) A (call (.type "list") [.ref z]) Q E s := by
  have tyz : s.TypeIs (.ref z) "zip" := ⟨_, hz, rfl⟩
  have lt : ∀ {c o}, s.heap.get? c = some o → c < s.heap.objs.size := fun e => Heap.lt_size e
  have lz := lt hz
  have hSa : s.heap.objs.size ≠ z := Nat.ne_of_gt lz
  refine callType_codes (Q₁ := fun obj s₁ => obj = .ref s.heap.objs.size ∧ s₁ = { s with heap := s.heap.push { cls := .type "list", data := .seq #[] } }) F.called_list (F.typeCall_list_1 _) F.entry_list_init
    (code_list_new _ ⟨rfl, rfl⟩) fun obj s₁ h₁ => ?_
  obtain ⟨rfl, rfl⟩ := h₁
  have hS : (s.heap.push { cls := .type "list", data := .seq #[] }).get? s.heap.objs.size = some { cls := .type "list", data := .seq #[] } := Heap.get?_push_size _ rfl
  refine ⟨⟨_, hS, rfl⟩, F.args_list_init_2 _ _, ?_⟩
  show wpAny _ A.in1.in1 (do let old ← Builtin.List.listItems (.ref s.heap.objs.size); Builtin.List.listUpdate (.ref s.heap.objs.size) (fun _ => #[]); letGo old.toList.reverse; Builtin.List.listExtendWith (.ref s.heap.objs.size) (.ref z) .none) _ _ _
  refine wpAny_bind ?_
  unfold Builtin.List.listItems
  refine wpAny_bind (wpAny_seqItems hS rfl (wpAny_pure ?_))
  show wpAny _ A.in1.in1 (updateSeq s.heap.objs.size (fun _ => #[]) >>= fun _ => letGo (#[] : Array Value).toList.reverse >>= fun _ => Builtin.List.listExtendWith (.ref s.heap.objs.size) (.ref z) .none) _ _ _
  refine wpAny_bind (wpAny_updateSeq hS rfl ?_)
  have hS2 := Heap.get?_update_self (Obj.mapSeq (fun _ => (#[] : Array Value))) hS rfl
  refine wpAny_bind (wpAny_letGo ?_)
  unfold Builtin.List.listExtendWith
  have up : ∀ (h : Heap) (f : Obj → Obj), (∀ b o, s.heap.get? b = some o → h.get? b = some o) → ∀ b o, s.heap.get? b = some o → (h.update s.heap.objs.size f).get? b = some o := fun h f q b o e =>
    (Heap.get?_update_other _ _ (Ne.symm (Nat.ne_of_lt (Heap.lt_size e)))).trans (q b o e)
  have k1 : ∀ b o, s.heap.get? b = some o → (s.heap.push { cls := .type "list", data := .seq #[] }).get? b = some o := fun b o e => Heap.get?_push_of_some _ e
  have k2 := up _ (Obj.mapSeq (fun _ => (#[] : Array Value))) k1
  have gty : ∀ {h : Heap} {tk : Nat}, (∀ b o, s.heap.get? b = some o → h.get? b = some o) → Shared.TypeIs { s with heap := h, toks := tk } (.ref z) "zip" := fun {h} {tk} q => ⟨_, q _ _ hz, rfl⟩
  refine wpAny_bind (wpAny_typeOf (gty (tk := s.toks) k2) ?_)
  have e1 : Builtin.List.listSameRef (.ref s.heap.objs.size) (.ref z) = false := by simp [Builtin.List.listSameRef, hSa]
  have e2 : (Value.type "zip" == Value.type "list") = false := by decide
  have e3 : (Value.type "zip" == Value.type "tuple") = false := by decide
  simp only [e1, e2, e3, Bool.or_false, Bool.false_eq_true, if_false]
  refine wpAny_bind (wpAny_pyIter_zip (s := { s with heap := _ }) (k2 _ _ hz) ?_)
  refine wpAny_bind (wpAny_holding ?_)
  unfold Builtin.List.listLengthHint
  refine wpAny_bind (wpAny_specialOf (gty (tk := s.toks) k2) zip_no_len ?_)
  show wpAny _ A.in1.in1 (specialOf (Value.ref z) (Str.ofString "__length_hint__") >>= _) _ _ _
  refine wpAny_bind (wpAny_specialOf (gty (tk := s.toks) k2) zip_no_hint ?_)
  refine wpAny_pure ?_
  show wpAny _ A.in1.in1 (rule "list.extend.makes-room" >>= fun _ => Builtin.List.listTouch (.ref s.heap.objs.size) >>= fun _ =>
    again (.builtin "list.extend.loop" ⟨[.ref s.heap.objs.size, .ref z, .none], []⟩)) _ _ _
  refine wpAny_bind (wpAny_rule ?_)
  refine wpAny_bind ?_
  show wpAny _ A.in1.in1 (updateSeq s.heap.objs.size (·.push .none) >>= fun _ => updateSeq s.heap.objs.size (·.pop)) _ _ _
  refine wpAny_bind (wpAny_updateSeq hS2 rfl ?_)
  have hS3 := Heap.get?_update_self (Obj.mapSeq (·.push Value.none)) hS2 rfl
  refine wpAny_updateSeq (hz := by seq_fits) hS3 rfl ?_
  have hS4 := Heap.get?_update_self (Obj.mapSeq (·.pop)) hS3 rfl
  have k4 := up _ (Obj.mapSeq (·.pop)) (up _ (Obj.mapSeq (·.push Value.none)) k2)
  refine wpAny_pure ⟨plainId_quiet PySem.F.plain_extend_loop _, ?_⟩
  have ltI : ∀ {i l k}, s.heap.IsTupleIter i l k → i < s.heap.objs.size := fun q => let ⟨_, e, _⟩ := q; lt e
  have ltT : ∀ {l items}, s.heap.IsTuple l items → l < s.heap.objs.size := fun q => let ⟨_, e, _⟩ := q; lt e
  refine loopZ (s := s) (lo := s.heap.objs.size + 1) (h₁ := s.heap) (TI := TI) (TO := TO) (i1 := i1) (i2 := i2) (a := a) (b := b) (xs := xs) (ys := ys) (A := A.in1) hh D hn .none
    (Nat.lt_succ_of_lt lz) (Nat.lt_succ_of_lt (lt hTI)) (Nat.lt_succ_of_lt (lt hTO)) (Nat.lt_succ_of_lt (ltI h1)) (Nat.lt_succ_of_lt (ltI h2)) (Nat.lt_succ_of_lt (ltT ha)) (Nat.lt_succ_of_lt (ltT hb)) (Nat.lt_succ_self _)
    (Nat.ne_of_lt lz) (Nat.ne_of_lt (lt hTI)) (Nat.ne_of_lt (lt hTO)) (Nat.ne_of_lt (ltI h1)) (Nat.ne_of_lt (ltI h2)) (Nat.ne_of_lt (ltT ha)) (Nat.ne_of_lt (ltT hb)) hsz
    (fun h' tk acc c as q1 q2 q3 q4 q5 => ⟨rfl, hQ h' tk acc c as (fun d o p1 p2 p3 p4 e => q1 d o (Nat.ne_of_lt (lt e)) p1 p2 p3 p4 e) q2 q3 q4 q5⟩)
    xs.size 0 _ s.toks _ #[] [] (Nat.sub_zero _) (Nat.zero_le _) ⟨k4 _ _ hTI, h1.at fun o e => k4 _ o e, h2.at fun o e => k4 _ o e, ha.at fun o e => k4 _ o e, hb.at fun o e => k4 _ o e, .inl ⟨k4 _ _ hz, _, _, k4 _ _ hTO⟩⟩ (fun d o _ _ _ _ _ e => k4 d o e)
    hS4 rfl rfl ⟨List.Pairwise.nil, (fun _ ha => nomatch ha), (fun j a hj => by simp at hj)⟩ (Heap.lt_size hS4)
end
/-- the heap with pairs laid at these places -/
def layZ (H : Hp) : List Addr → List V → List V → Hp
  | c :: cs, x :: xs, y :: ys => upd (layZ H cs xs ys) c (.tup [x, y])
  | _, _, _ => H
theorem layZ_get {H : Hp} : ∀ {cs : List Addr} {xs ys : List V} {d : Addr}, d ∉ cs → layZ H cs xs ys d = H d
  | [], _, _, _, _ => by unfold layZ; rfl
  | c :: cs, [], ys, d, h => by unfold layZ; rfl
  | c :: cs, x :: xs, [], d, h => by unfold layZ; rfl
  | c :: cs, x :: xs, y :: ys, d, h => by
    show upd _ _ _ _ = _
    rw [upd_ne (fun e => h (by rw [e]; exact List.mem_cons_self))]
    exact layZ_get fun e => h (List.mem_cons_of_mem _ e)
theorem layZ_at {H : Hp} : ∀ {cs : List Addr} {xs ys : List V} {j : Nat} {c : Addr} {x y : V}, cs.Nodup → cs[j]? = some c → xs[j]? = some x → ys[j]? = some y → layZ H cs xs ys c = some (.tup [x, y])
  | [], _, _, j, _, _, _, _, h, _, _ => by simp at h
  | c :: cs, [], ys, j, _, _, _, _, _, h, _ => by simp at h
  | c :: cs, x :: xs, [], j, _, _, _, _, _, _, h => by simp at h
  | c :: cs, x :: xs, y :: ys, 0, d, u, v, nd, h1, h2, h3 => by
    cases h1; cases h2; cases h3
    show upd _ _ _ _ = _
    exact upd_same
  | c :: cs, x :: xs, y :: ys, j + 1, d, u, v, nd, h1, h2, h3 => by
    have h1 : cs[j]? = some d := h1
    show upd _ _ _ _ = _
    rw [List.nodup_cons] at nd
    rw [upd_ne (fun e => nd.1 (by rw [← e]; exact List.mem_of_getElem? h1))]
    exact layZ_at nd.2 h1 h2 h3
theorem layZ_same {H : Hp} {cs : List Addr} {xs ys : List V} (h : ∀ c ∈ cs, H c = none) : Same H (layZ H cs xs ys) := fun b u e => by
  rw [layZ_get fun m => by rw [h b m] at e; cases e]
  exact e
theorem layZ_hok {P : Program} {w : World} {H : Hp} {h : Heap} {us vs : Array Value} : ∀ {cs : List Addr} {xs ys : List V} {k : Nat}, cs.Nodup → (∀ c ∈ cs, H c = none) → HOk P w H h →
    (∀ (j : Nat) (c : Addr), cs[j]? = some c → ∃ x y, us[k + j]? = some x ∧ vs[k + j]? = some y ∧ h.get? c = some { cls := .type "tuple", data := .seq #[x, y] }) →
    (∀ (j : Nat) (x : V), xs[j]? = some x → ∃ u, us[k + j]? = some u ∧ RelV x u) → (∀ (j : Nat) (x : V), ys[j]? = some x → ∃ u, vs[k + j]? = some u ∧ RelV x u) → HOk P w (layZ H cs xs ys) h
  | [], _, _, k, _, _, ho, _, _, _ => by unfold layZ; exact ho
  | c :: cs, [], ys, k, _, _, ho, _, _, _ => by unfold layZ; exact ho
  | c :: cs, x :: xs, [], k, _, _, ho, _, _, _ => by unfold layZ; exact ho
  | c :: cs, x :: xs, y :: ys, k, nd, hn, ho, hp, hx, hy => by
    rw [List.nodup_cons] at nd
    have sh : ∀ (j : Nat), k + (j + 1) = k + 1 + j := fun j => by omega
    have ih := layZ_hok (cs := cs) (xs := xs) (ys := ys) (k := k + 1) nd.2 (fun c hc => hn c (List.mem_cons_of_mem _ hc)) ho (fun j d e => by rw [← sh]; exact hp (j + 1) d e) (fun j d e => by rw [← sh]; exact hx (j + 1) d e) fun j d e => by rw [← sh]; exact hy (j + 1) d e
    have hc : layZ H cs xs ys c = none := by rw [layZ_get nd.1]; exact hn c List.mem_cons_self
    intro b u e
    by_cases hb : b = c
    · subst hb
      have e : upd (layZ H cs xs ys) b (.tup [x, y]) b = some u := e
      rw [upd_same] at e
      cases e
      obtain ⟨p, q, e1, e2, e3⟩ := hp 0 b rfl
      obtain ⟨u1, f1, r1⟩ := hx 0 x rfl
      obtain ⟨u2, f2, r2⟩ := hy 0 y rfl
      rw [e1] at f1; cases f1
      rw [e2] at f2; cases f2
      exact ⟨by show 2 ≤ sizeLine; decide, [p, q], .cons r1 (.cons r2 .nil), ⟨_, e3, rfl, _, rfl⟩⟩
    · have e : upd (layZ H cs xs ys) c (.tup [x, y]) b = some u := e
      rw [upd_ne hb] at e
      exact (ih b u e).stay (fun _ _ _ z => z) (fun d z => by show upd _ _ _ _ = _; rw [upd_ne (ne_of_none z hc)]; exact z) fun d xs z => by show upd _ _ _ _ = _; rw [upd_ne (ne_of_none z hc)]; exact z
/-- the value of list(zip(t1, t2)) -/
def tListZip (K : PySem.W.Frag) (ta : TA) : TE := fun σ H Q => ta σ H fun vs H1 => ∃ a b xs ys, vs = [.ref a, .ref b] ∧ SqT K H1 a xs ∧ SqT K H1 b ys ∧ xs.length = ys.length ∧
  ∀ (cs : List Addr) (S : Addr), cs.length = xs.length → cs.Nodup → (∀ c ∈ cs, H1 c = none) → S ∉ cs → H1 S = none → Q (.ref S) (upd (layZ H1 cs xs ys) S (.lst (cs.map V.ref)))
theorem pe_listZip {X : Cx} {e e2 : Expr} {ta : TA} {p pos p2 pos2 : Pos} (hc : X.calm = true) (hg : Gl X "zip") (hm : X.mg "zip" = none) (hg2 : Gl X "list") (hm2 : X.mg "list" = none) (ha : PA X [e, e2] ta)
    (hs : starEach [e, e2] X.env = (false, eval e X.env) :: starEach [e2] X.env := by rfl) (hpl : (backTo pos (starEach [e2] X.env)).any (·.1) = false := by rfl)
    (hs2 : starEach [(.Call (.Name "zip" p) [e, e2] [] pos : Expr)] X.env = (false, eval (.Call (.Name "zip" p) [e, e2] [] pos) X.env) :: starEach [] X.env := by rfl) :
    PE X (.Call (.Name "list" p2) [.Call (.Name "zip" p) [e, e2] [] pos] [] pos2) (tListZip X.K ta) := by
  refine ⟨fun pins s σ H Q I h => ?_⟩
  refine Call_ (ld_blt I hg2 hm2 PyProof.Rows.boot_list ?_)
  refine PyProof.Rows.callWith_type1 (PyProof.Rows.args_cons ?_ hs2) hs2 rfl
  refine Call_ (ld_blt I hg hm PyProof.Rows.boot_zip (PyProof.Rows.callWith_type1 (thn (ha.run pos pins s σ H _ I h) fun us s1 ⟨vs, H1, I1, r1, q1⟩ => ?_) hs hpl))
  obtain ⟨a, b, xs, ys, ex, hqx, hqy, hle, q1⟩ := q1
  subst ex
  cases r1 with
  | cons r rr =>
    cases rr with
    | cons r' rr =>
      cases rr
      cases r
      cases r'
      obtain ⟨its, rv, p1, hz1⟩ := I1.tuple hqx
      obtain ⟨its2, rv2, p2, hz2⟩ := I1.tuple hqy
      obtain ⟨o1, ho1, _⟩ := id p1
      obtain ⟨o2, ho2, _⟩ := id p2
      refine call_zipT (show s1.heap.IsTuple a its.toArray from p1) (show s1.heap.IsTuple b its2.toArray from p2) fun h' hz hTI hTO h1 h2 hsz hk => ?_
      refine PyProof.Rows.args_nil ?_
      have I2 : Inv X pins σ H1 { s1 with heap := h' } := I1.kept (t' := s1.toks) hk
      have pk : ∀ {l items}, s1.heap.IsTuple l items → h'.IsTuple l items := fun q => q.at fun o e => hk _ o e
      have l1 := rv.length
      have l2 := rv2.length
      refine call_list_zip (s := { s1 with heap := h' }) (xs := its.toArray) (ys := its2.toArray) (I1.ok.hd hc) (PySem.W.ktu_apart s1.heap.objs.size a b (Heap.lt_size ho1) (Heap.lt_size ho2)) ?_ (by simp; omega) hz hTI hTO h1 h2 (pk p1) (pk p2) fun h2 tk acc c as kp hS hl M hacc => ?_
      · simp only [List.size_toArray]; omega
      have z5 : h'.objs.size = s1.heap.objs.size + 5 := hsz
      have nd : as.Nodup := M.rise.imp fun q => Nat.ne_of_lt q
      have abv : ∀ d ∈ as, s1.heap.objs.size ≤ d := fun d hd => by
        have q := M.above d hd
        have q : h'.objs.size + 1 ≤ d := q
        omega
      have fr : ∀ d ∈ as, H1 d = none := fun d hd => I1.hok.fresh (abv d hd)
      have nS : h'.objs.size ∉ as := fun hd => by
        have q := M.above _ hd
        have q : h'.objs.size + 1 ≤ h'.objs.size := q
        omega
      have fS : H1 h'.objs.size = none := I1.hok.fresh (by omega)
      have hlas : as.length = xs.length := by rw [hl]; simp only [List.size_toArray]; omega
      have kp1 : ∀ d o, s1.heap.get? d = some o → h2.get? d = some o := fun d o e => by
        have q := Heap.lt_size e
        exact kp d o (Nat.ne_of_lt (Nat.lt_of_lt_of_le q (Nat.le_add_right _ _))) (Nat.ne_of_lt (Nat.lt_of_lt_of_le q (Nat.le_add_right _ _))) (Nat.ne_of_lt q) (Nat.ne_of_lt (Nat.lt_of_lt_of_le q (Nat.le_add_right _ _))) (hk d o e)
      have sm : Same H1 (layZ H1 as xs ys) := layZ_same fr
      have nw : ∀ d o, s1.heap.get? d = some o → H1 d = none → layZ H1 as xs ys d = none := fun d o e n => by
        rw [layZ_get fun m => absurd (Heap.lt_size e) (Nat.not_lt.mpr (abv d m))]
        exact n
      have un : Un (frs X.stack) [] H1 (layZ H1 as xs ys) s1.heap h2 := ⟨fun d o e _ _ _ => kp1 d o e, fun d o e _ _ _ => ⟨o.slots, kp1 d o e⟩, fun d o e n _ => nw d o e n, fun d o e _ => ⟨o, kp1 d o e⟩, fun d q e => sm _ _ e, fun d o u e => sm _ _ e,
        fun d ps e => ⟨#[], by rw [sm _ _ e]; simp⟩⟩
      have hok : HOk X.prog X.w (layZ H1 as xs ys) h2 := by
        refine layZ_hok (us := its.toArray) (vs := its2.toArray) (k := 0) nd fr (I1.hok.kept kp1) (fun j d e => ?_) (fun j x e => ?_) fun j x e => ?_
        · obtain ⟨x, y, e1, e2, e3⟩ := M.pairs j d e
          exact ⟨x, y, by simpa using e1, by simpa using e2, e3⟩
        · obtain ⟨u, hu, ru⟩ := rv.get e
          exact ⟨u, by simpa using hu, ru⟩
        · obtain ⟨u, hu, ru⟩ := rv2.get e
          exact ⟨u, by simpa using hu, ru⟩
      have vr : ∀ l : List Addr, Vals (l.map V.ref) (l.map Value.ref) := fun l => by
        induction l with
        | nil => exact .nil
        | cons d r ih => exact .cons rfl ih
      have I3 : Inv X pins σ (upd (layZ H1 as xs ys) h'.objs.size (.lst (as.map V.ref))) { s1 with heap := h2, toks := tk } :=
        I1.drained (ex := []) (by omega) (by rw [List.length_map]; omega) hS (by rw [hacc]; exact vr as) .nil rfl I1.bare un hok (by rw [layZ_get nS]; exact fS)
      exact ⟨.ref h'.objs.size, _, I3, rfl, q1 as _ hlas nd fr nS fS⟩
end RZ

/-! Pd: lists joined, list(zip(..)), isinstance. -/
namespace Pd
open PySem L2
section
variable {X : Cx} {W : WX} {mg : Str → Option Value}
/-- xs + ys of lists: a new list -/
theorem up_cat (own : Bool) {a b : Expr} {ta tb : LE} {pos : Pos} (ha : PE X a (upE X.K mg W ta)) (hb : PE X b (upE X.K mg W tb)) :
    PE X (.BinOp a .Add b pos) (upE X.K mg W fun env st Q E => ta env st (fun x s1 => tb env s1 (fun y s2 => ∃ as bs, lstX s2 x = some as ∧ lstX s2 y = some bs ∧ as.length + bs.length ≤ sizeLine ∧ newL own (as ++ bs) s2 Q) E) E) := by
  refine (pe_op op_cat ha hb).imp fun σ H Q ⟨ω, env, st, Qd, Ed, R, t, hQ, hE⟩ => ?_
  refine ⟨ω, env, st, _, Ed, R, t, fun x s1 ω1 H1 v e1 R1 r1 t1 => ?_, hE⟩
  refine ⟨ω1, env, s1, _, Ed, R1, t1, fun y s2 ω2 H2 u e2 R2 r2 t2 => ?_, hE.mono e1⟩
  obtain ⟨as, bs, h1, h2, t2⟩ := t2
  · obtain ⟨p1, xs, rfl, g1, q1⟩ := lstX_rep R2 (r1.mono e2 R1.w) h1
    obtain ⟨p2, ys, rfl, g2, q2⟩ := lstX_rep R2 r2 h2
    refine ⟨p1, p2, xs, ys, rfl, rfl, g1, g2, by rw [q1.length, q2.length]; exact t2.1, fun p hp => ?_⟩
    obtain ⟨x', s3, ω3, e3, R3, r3, t3⟩ := newL_rep R2 hp (q1.append q2) t2.2
    exact hQ x' s3 ω3 _ _ ((e1.trans e2).trans e3) R3 r3 t3

/-! list(zip(t1, t2)) -/
def zipD : List D → List D → List D
  | x :: xs, y :: ys => .tup [x, y] :: zipD xs ys
  | _, _ => []
theorem zipD_rep {K : PySem.W.Frag} {ω : Wd} {H' : Hp} : ∀ {cs : List Addr} {xs ys : List V} {ds es : List D}, (∀ (j : Nat) (c : Addr) (x y : V), cs[j]? = some c → xs[j]? = some x → ys[j]? = some y → H' c = some (.tup [x, y])) → cs.length = xs.length → xs.length = ys.length →
    Reps K mg ω H' xs ds → Reps K mg ω H' ys es → Reps K mg ω H' (cs.map V.ref) (zipD ds es)
  | [], [], [], _, _, _, _, _, .nil, .nil => by unfold zipD; exact .nil
  | c :: cs, x :: xs, y :: ys, _, _, h, l1, l2, .cons r1 t1, .cons r2 t2 => by
    unfold zipD
    exact .cons (.tup (SqT.of (h 0 c x y rfl rfl rfl)) (.cons r1 (.cons r2 .nil))) (zipD_rep (fun j d u v e1 e2 e3 => h (j + 1) d u v e1 e2 e3) (by simpa using l1) (by simpa using l2) t1 t2)
  | [], x :: xs, _, _, _, _, l1, _, _, _ => by simp at l1
  | c :: cs, [], _, _, _, _, l1, _, _, _ => by simp at l1
  | [], [], y :: ys, _, _, _, _, l2, _, _ => by simp at l2
  | c :: cs, x :: xs, [], _, _, _, _, l2, _, _ => by simp at l2
theorem up_listZip (own : Bool) {e e2 : Expr} {t : LA} {p pos p2 pos2 : Pos} (hc : X.calm = true) (hg : Gl X "zip") (hm : X.mg "zip" = none) (hg2 : Gl X "list") (hm2 : X.mg "list" = none) (ha : PA X [e, e2] (upA X.K mg W t))
    (hs : starEach [e, e2] X.env = (false, eval e X.env) :: starEach [e2] X.env) (hpl : (backTo pos (starEach [e2] X.env)).any (·.1) = false)
    (hs2 : starEach [(.Call (.Name "zip" p) [e, e2] [] pos : Expr)] X.env = (false, eval (.Call (.Name "zip" p) [e, e2] [] pos) X.env) :: starEach [] X.env) :
    PE X (.Call (.Name "list" p2) [.Call (.Name "zip" p) [e, e2] [] pos] [] pos2) (upE X.K mg W fun env st Q E => t env st (fun xs s1 => match xs with
      | [.dat (.tup as), .dat (.tup bs)] => as.length = bs.length ∧ newL own (zipD as bs) s1 Q
      | _ => False) E) := by
  refine (RZ.pe_listZip hc hg hm hg2 hm2 ha hs hpl hs2).imp fun σ H Q ⟨ω, env, st, Qd, Ed, R, t, hQ, hE⟩ => ?_
  refine ⟨ω, env, st, _, Ed, R, t, fun xs s1 ω1 H1 vs e1 R1 r1 t1 => ?_, hE⟩
  split at t1
  · rename_i as bs
    cases r1 with
    | cons r1 r2 =>
      cases r2 with
      | cons r2 r3 =>
        cases r3
        cases r1 with
        | dat r1 =>
          cases r2 with
          | dat r2 =>
            cases r1 with
            | tup h1 q1 =>
              cases r2 with
              | tup h2 q2 =>
                rename_i a xs b ys
                have l1 := q1.length
                have l2 := q2.length
                have le : xs.length = ys.length := by rw [l1, l2]; exact t1.1
                refine ⟨a, b, xs, ys, rfl, h1, h2, le, fun cs S lc nd fr nS fS => ?_⟩
                have sm : Same H1 (RZ.layZ H1 cs xs ys) := RZ.layZ_same fr
                have R2 := R1.same sm
                have rz : Reps X.K mg ω1 (RZ.layZ H1 cs xs ys) (cs.map V.ref) (zipD as bs) := zipD_rep (fun j c x y e1 e2 e3 => RZ.layZ_at nd e1 e2 e3) lc le (q1.mono (.of_same sm) R1.w) (q2.mono (.of_same sm) R1.w)
                obtain ⟨x', s3, ω3, e3, R3, r3, t3⟩ := newL_rep R2 (by rw [RZ.layZ_get nS]; exact fS) rz t1.2
                exact hQ x' s3 ω3 _ _ ((e1.trans (.of_same sm)).trans e3) R3 r3 t3
  · exact t1.elim
end

/-! ### isinstance -/
/-- a value's class by data: a built-in one, an own one -/
inductive TyK where
  | bt (n : String) | own (cn : Str)
def tyK : Va → Option TyK
  | .loc _ => some (.bt "list")
  | .dat .non => some (.bt "NoneType")
  | .dat (.bl _) => some (.bt "bool")
  | .dat (.int _) => some (.bt "int")
  | .dat (.str _) => some (.bt "str")
  | .dat (.tup _) => some (.bt "tuple")
  | .dat (.lst _) => some (.bt "list")
  | .dat (.obj cn _ _) => some (.own cn)
  | .dat _ => none
/-- the class at C is as isinstance wants it -/
structure ClsI (K : PySem.W.Frag) (C : Addr) : Prop where
  cl : Cls K C
  ha : PySem.W.findIn K (.ref C) "__class__" = some (some (.builtin "object.__class__"))
  hn : PySem.W.specialIn K (.builtin "object.__class__") "__get__" = some (some (.builtin "getset_descriptor.__get__"))
  htk : PySem.W.takesIn K (.builtin "object.__class__") = some true
  hm : PySem.W.mroIn K C (.type "object") = some true
/-- isinstance's answer for such values and these classes -/
def KAns (K : PySem.W.Frag) (mg : Str → Option Value) (us : List Value) : TyK → Bool → Prop
  | .bt a, b => PySem.W.kitAny K (.type a) us = some b
  | .own cn, b => ∀ C, mg cn = some (.ref C) → ClsI K C ∧ PySem.W.kitAny K (.ref C) us = some b
def isiX (ans : TyK → Option Bool) (x : Va) : Option Bool := (tyK x).bind ans
section
variable {K : PySem.W.Frag} {mg : Str → Option Value} {ω : Wd} {H : Hp} {σ : St} {env : DEnv} {st : DSto}
theorem tup_ty {a : Addr} {xs : List V} (h : SqT K H a xs) : TyX K H (.ref a) (.type "tuple") := by
  rcases h with (h | ⟨o, h⟩) | ⟨o, its, n, hk, hc, _⟩
  · exact .base (.tup h)
  · exact .fTuple h
  · exact .kTuple hk hc
theorem isiX_rep (R : RepS K mg ω H σ env st) {v : V} {x : Va} (r : RepV K mg ω H v x) {ans : TyK → Option Bool} {us : List Value} (hk : ∀ t b, ans t = some b → KAns K mg us t b) {b : Bool} (h : isiX ans x = some b) :
    ∃ t, TyX K H v t ∧ PySem.W.kitAny K t us = some b := by
  have bt : ∀ {n : String}, ans (.bt n) = some b → PySem.W.kitAny K (.type n) us = some b := fun e => hk _ _ e
  cases r with
  | loc e =>
    rename_i a n
    have hlt : n < st.length := by
      rw [R.s.1]
      exact (List.getElem?_eq_some_iff.mp e).1
    obtain ⟨a', xs, q1, q2, _⟩ := R.s.2 n st[n].1 st[n].2 (List.getElem?_eq_getElem hlt)
    rw [e] at q1
    cases q1
    exact ⟨_, .base (.lst q2), bt h⟩
  | dat r =>
    cases r with
    | non => exact ⟨_, .base .non, bt h⟩
    | bl b => exact ⟨_, .base (.bl b), bt h⟩
    | int b => exact ⟨_, .base (.int b), bt h⟩
    | str b => exact ⟨_, .base (.str b), bt h⟩
    | tup q _ => exact ⟨_, tup_ty q, bt h⟩
    | lst q _ _ => exact ⟨_, .base (.lst q), bt h⟩
    | obj hm q _ _ =>
      obtain ⟨c, z⟩ := hk _ _ h _ hm
      exact ⟨_, .base (.ins q c.cl c.ha c.hn c.htk c.hm), z⟩
    | deal _ => cases h
    | scr _ => cases h
end
section
variable {X : Cx} {W : WX} {mg : Str → Option Value}
theorem kit1 {K : PySem.W.Frag} {t u : Value} {b : Bool} (h : PySem.W.kitAny K t [u] = some b) : PySem.W.kitOne K t u = some b := by
  unfold PySem.W.kitAny at h
  split at h
  · cases h; assumption
  · rw [show PySem.W.kitAny K t [] = some false from rfl] at h
    cases h; assumption
  · cases h
/-- isinstance(e, T) -/
theorem up_isi {e n : Expr} {te : LE} {p pos : Pos} {c : V} {u : Value} (ans : TyK → Option Bool) (hk : ∀ t b, ans t = some b → KAns X.K mg [u] t b) (hc : ClsV c u) (hg : Gl X "isinstance") (hm : X.mg "isinstance" = none)
    (he : PE X e (upE X.K mg W te)) (hn : PE X n (tC c)) (hs : starEach [e, n] X.env = (false, eval e X.env) :: starEach [n] X.env) (hs2 : starEach [n] X.env = (false, eval n X.env) :: starEach [] X.env) (hpl : (backTo pos (starEach [n] X.env)).any (·.1) = false) :
    PE X (.Call (.Name "isinstance" p) [e, n] [] pos) (upE X.K mg W fun env st Q E => te env st (fun x s1 => ∃ b, isiX ans x = some b ∧ Q (.dat (.bl b)) s1) E) := by
  refine (pe_callB call_isi hg hm PyProof.Rows.boot_isinstance (pa_cons he (pa_cons hn pa_nil hs2) hs) (by decide) (by decide) hs hpl).imp fun σ H Q ⟨ω, env, st, Qd, Ed, R, t, hQ, hE⟩ => ?_
  refine ⟨ω, env, st, _, Ed, R, t, fun x s1 ω1 H1 v e1 R1 r1 t1 => ?_, hE⟩
  obtain ⟨b, hb, t1⟩ := t1
  obtain ⟨t, h1, h2⟩ := isiX_rep R1 r1 hk hb
  exact ⟨v, c, t, u, b, rfl, hc, h1, kit1 h2, hQ _ s1 ω1 H1 _ e1 R1 (.dat (.bl b)) t1⟩
theorem TyX.same {K : PySem.W.Frag} {H H' : Hp} {x : V} {t : Value} (s : Same H H') (h : TyX K H x t) : TyX K H' x t := by
  cases h with
  | base h =>
    refine .base ?_
    cases h with
    | non => exact .non
    | bl b => exact .bl b
    | int b => exact .int b
    | str b => exact .str b
    | flt b => exact .flt b
    | lst e => exact .lst (s _ _ e)
    | frz e => exact .frz (s _ _ e)
    | tup e => exact .tup (s _ _ e)
    | dK e => exact .dK (s _ _ e)
    | dT e => exact .dT (s _ _ e)
    | ins e c a b d f => exact .ins (s _ _ e) c a b d f
  | byt b => exact .byt b
  | set e => exact .set (s _ _ e)
  | kList e c => exact .kList e c
  | kTuple e c => exact .kTuple e c
  | kDict e c => exact .kDict e c
  | fTuple e => exact .fTuple (s _ _ e)
  | fDict e => exact .fDict (s _ _ e)
/-- names of classes, one after another -/
inductive PCls (X : Cx) : List Expr → List V → List Value → Prop
  | nil : PCls X [] [] []
  | cons {n : Expr} {ns : List Expr} {c : V} {cs : List V} {u : Value} {us : List Value} : ClsV c u → PE X n (tC c) → starEach (n :: ns) X.env = (false, eval n X.env) :: starEach ns X.env → PCls X ns cs us → PCls X (n :: ns) (c :: cs) (u :: us)
theorem PCls.len {ns : List Expr} {cs : List V} {us : List Value} (h : PCls X ns cs us) : cs.length = ns.length := by
  induction h with
  | nil => rfl
  | cons _ _ _ _ ih => rw [List.length_cons, List.length_cons, ih]
def tCs (cs : List V) : TA := fun _ H Q => Q cs H
theorem PCls.pa {ns : List Expr} {cs : List V} {us : List Value} (h : PCls X ns cs us) : PA X ns (tCs cs) := by
  induction h with
  | nil => exact pa_nil
  | cons _ hn hs _ ih => exact (pa_cons hn ih hs).imp fun σ H Q q => q
theorem PCls.paired {ns : List Expr} {cs : List V} {us : List Value} (h : PCls X ns cs us) : Paired ClsV cs us := by
  induction h with
  | nil => exact .nil
  | cons c _ _ _ ih => exact .cons c ih
/-- isinstance(e, (S, T, ..)) -/
theorem up_isiT {e : Expr} {ns : List Expr} {te : LE} {p pos tpos : Pos} {kk : Nat} {cs : List V} {us : List Value} (ans : TyK → Option Bool) (hk : ∀ t b, ans t = some b → KAns X.K mg us t b) (hg : Gl X "isinstance") (hm : X.mg "isinstance" = none)
    (he : PE X e (upE X.K mg W te)) (hn : PCls X ns cs us) (hl : ns.length ≤ sizeLine) (hs : starEach [e, .Tuple ns kk tpos] X.env = (false, eval e X.env) :: starEach [.Tuple ns kk tpos] X.env) (hs2 : starEach [(.Tuple ns kk tpos : Expr)] X.env = (false, eval (.Tuple ns kk tpos) X.env) :: starEach [] X.env)
    (hpl : (backTo pos (starEach [(.Tuple ns kk tpos : Expr)] X.env)).any (·.1) = false) :
    PE X (.Call (.Name "isinstance" p) [e, .Tuple ns kk tpos] [] pos) (upE X.K mg W fun env st Q E => te env st (fun x s1 => ∃ b, isiX ans x = some b ∧ Q (.dat (.bl b)) s1) E) := by
  refine (pe_callB call_isiT hg hm PyProof.Rows.boot_isinstance (pa_cons he (pa_cons (pe_tup hn.pa) pa_nil hs2) hs) (by decide) (by decide) hs hpl).imp fun σ H Q ⟨ω, env, st, Qd, Ed, R, t, hQ, hE⟩ => ?_
  refine ⟨ω, env, st, _, Ed, R, t, fun x s1 ω1 H1 v e1 R1 r1 t1 => ?_, hE⟩
  obtain ⟨b, hb, t1⟩ := t1
  · obtain ⟨t, h1, h2⟩ := isiX_rep R1 r1 hk hb
    refine ⟨by rw [hn.len]; exact hl, fun q hq => ?_⟩
    have sm := same_upd (o := HO.tup cs) hq
    exact ⟨v, q, cs, t, us, b, rfl, upd_same, hn.paired, TyX.same sm h1, h2, hQ _ s1 ω1 _ _ (e1.trans (.of_same sm)) (R1.same sm) (.dat (.bl b)) t1⟩
end
end Pd

/-! Pd: names and constants; defs. -/
namespace Pd
open PySem PySem.Spec PyProof.Rows L2
def getV (env : DEnv) (i : Nat) (k : Va → Prop) : Prop := match env[i]? with
  | some (some v) => k v
  | _ => False
section
variable {X : Cx} {W : WX} {mg : Str → Option Value} {pos : Pos}
theorem up_var {x : Str} (i : Nat) (hN : X.N[i]? = some x) (hv : Vis X.env.scope x) (hd : (x == ("__debug__" : Str)) = false := by decide) (hcd : (x == ("__classdict__" : Str)) = false := by decide) :
    PE X (.Name x pos) (upE X.K mg W fun env st Q E => getV env i fun v => Q v st) := by
  refine (pe_var hN hv hd hcd).imp fun σ H Q ⟨ω, env, st, Qd, Ed, R, t, hQ, hE⟩ => ?_
  dsimp only [getV] at t
  split at t
  · rename_i v hv
    obtain ⟨u, h1, h2⟩ := R.e.2 i v hv
    exact ⟨u, h1, hQ v st ω H u (.refl _ _) R h2 t⟩
  · exact t.elim
theorem up_int {i : Int} {j : Nat} : PE X (.Constant (.int i) j pos) (upE X.K mg W fun env st Q E => Q (.dat (.int i)) st) := pe_int.imp fun σ H Q ⟨ω, env, st, Qd, Ed, R, t, hQ, hE⟩ => hQ _ st ω H _ (.refl _ _) R (.dat (.int i)) t
theorem up_str {i : Str} {j : Nat} : PE X (.Constant (.str i) j pos) (upE X.K mg W fun env st Q E => Q (.dat (.str i)) st) := pe_str.imp fun σ H Q ⟨ω, env, st, Qd, Ed, R, t, hQ, hE⟩ => hQ _ st ω H _ (.refl _ _) R (.dat (.str i)) t
theorem up_bl {i : Bool} {j : Nat} : PE X (.Constant (.bool i) j pos) (upE X.K mg W fun env st Q E => Q (.dat (.bl i)) st) := pe_bl.imp fun σ H Q ⟨ω, env, st, Qd, Ed, R, t, hQ, hE⟩ => hQ _ st ω H _ (.refl _ _) R (.dat (.bl i)) t
theorem up_non {j : Nat} : PE X (.Constant .none j pos) (upE X.K mg W fun env st Q E => Q (.dat .non) st) := pe_non.imp fun σ H Q ⟨ω, env, st, Qd, Ed, R, t, hQ, hE⟩ => hQ _ st ω H _ (.refl _ _) R (.dat .non) t
end

/-! ### defs -/
def startD (N : List Str) (ds : List D) : DEnv := ds.map (fun d => some (.dat d)) ++ List.replicate (N.length - ds.length) none
section
variable {K : PySem.W.Frag} {mg : Str → Option Value} {ω ω' : Wd} {H H' : Hp}
theorem Reps.beg {vs : List V} {ds : List D} (r : Reps K mg ω H vs ds) (N : List Str) : RepEnv K mg ω H (L2.start N vs) (startD N ds) := by
  have hl := r.length
  refine ⟨by unfold L2.start startD; simp [hl], fun i d h => ?_⟩
  unfold startD at h
  by_cases hi : i < ds.length
  · rw [List.getElem?_append_left (by simpa using hi), List.getElem?_map, List.getElem?_eq_getElem hi] at h
    cases h
    obtain ⟨v, h1, h2⟩ := r.get (List.getElem?_eq_getElem hi)
    refine ⟨v, ?_, .dat h2⟩
    unfold L2.start
    rw [List.getElem?_append_left (by rw [List.length_map, hl]; exact hi), List.getElem?_map, h1]
    rfl
  · rw [List.getElem?_append_right (by simpa using hi), List.getElem?_replicate] at h
    split at h <;> cases h
/-- the world that a def leaves -/
def Wd.left (ω : Wd) : Wd := ⟨[], [], ω.gam, ω.phi⟩
theorem left_busy {a : Addr} (h : a ∈ ω.left.busy) : a ∈ ω.busy := by
  rw [busy_iff] at h ⊢
  rcases h with h | h | h
  · cases h
  · exact .inr (.inl h)
  · exact .inr (.inr h)
theorem left_ok (w : WOk ω H) : WOk ω.left H := by
  refine ⟨?_, List.nodup_nil, (fun a h => by cases h), (fun a h => by cases h), w.dls, w.out⟩
  refine w.nd.sublist ?_
  unfold Wd.busy Wd.mut
  exact List.Sublist.append (List.Sublist.append (List.nil_sublist _) (List.Sublist.refl _)) (List.Sublist.refl _)
theorem left_ext (e : Ext ω H ω' H') (ha : ω.ads = []) : Ext ω H ω'.left H' := by
  refine ⟨⟨[], by rw [ha]; rfl⟩, e.gam, e.phi, fun a o h n => ?_⟩
  obtain ⟨q1, q2⟩ := e.keep a o h n
  refine ⟨q1, fun z => q2 ?_⟩
  rcases List.mem_append.mp z with z | z
  · cases z
  · exact List.mem_append_right _ z
end
section
variable {P : Program} {w : World} {K : PySem.W.Frag} {mg : Str → Option Value} {base : Heap}
theorem ok_def {x qual : Str} {st : Stmt} {f : Addr} {fd : FuncData} {N ps : List Str} {k : Nat} {S : SpecD} (F : Fun K x qual st f fd) (sc : FnScope N ps (defScope st))
    (hb : ∀ (cdv : Value) (A : Around) (outer : List Env) (s : Shared) (H : Hp) (E : XK), Room k (A.deeper (envOfC qual (defScope st) s.heap.objs.size f cdv)) →
      ∃ t : LS, PSs (cxOf (L2.CX P w) P w K mg base N qual (defScope st) f cdv A outer s H E) (defBody st) (upS K mg (fun cls d _ H => E cls d H) t) ∧
        ∀ ds Q E', S ds Q E' → ds.length = ps.length → t ⟨fun _ _ => Q .non, Q, fun _ _ => False, fun _ _ => False, fun ex _ _ => E' ex⟩ (startD N ds) []) :
    FnOk P w K mg base (L2.CX P w) (k + 1) f fd ps (liftSp K mg ps.length S) := by
  refine F.okX sc (fun vs H Q E h => h.1) fun cdv A outer s H vs Q E hr h => ?_
  obtain ⟨t, h1, h2⟩ := hb cdv A outer s H E hr
  refine ⟨_, h1, ?_⟩
  obtain ⟨hn, ω, ds, Qd, Ed, ha, hl, wo, r, q, hQ, hE⟩ := h
  refine ⟨ω, startD N ds, [], _, ⟨wo, r.beg N, ⟨by rw [ha]; rfl, fun n b ds h => by simp at h⟩⟩, h2 ds Qd Ed q (r.length.symm.trans hn), ⟨fun env st ω' H' σ e R q => ?_, (fun _ _ _ _ _ _ _ q => q.elim), (fun _ _ _ _ _ _ _ q => q.elim), fun d ω' H' v e wo rv q => ?_, fun ex env st ω' H' σ cls dx e R rx q => ?_⟩⟩
  · exact hQ .non ω'.left H' .non (left_ext e ha) rfl rfl (left_ok R.w) .non q
  · exact hQ d ω'.left H' v (left_ext e ha) rfl rfl (left_ok wo) (rv.congr (fun a z => left_busy z) rfl) q
  · obtain ⟨C, d, xs, q1, q2, q3, q4, q5, q6⟩ := rx
    exact hE ex ω'.left H' cls dx (left_ext e ha) rfl rfl (left_ok R.w) ⟨C, d, xs, q1, q2, q3, q4, q5, q6.congr (fun a z => left_busy z) rfl⟩ q
/-- a def by its name, as its callers want it -/
structure CalD (P : Program) (w : World) (K : PySem.W.Frag) (mg : Str → Option Value) (base : Heap) (k : Nat) (x : Str) (ps : List Str) (st : Stmt) (S : SpecD) : Prop where
  ex : ∃ (f : Addr) (fd : FuncData), Fun K x x st f fd ∧ FnOk P w K mg base (L2.CX P w) k f fd ps (liftSp K mg ps.length S) ∧ mg x = some (.ref f) ∧ Binds K fd ps []
end
end Pd

/-! Pd: the rules in short, for printed terms; readings by named pieces (so terms stay small). -/
namespace Pd
open PySem PySem.Spec PyProof.Rows L2

/-- a context in which all goes by data: of a def, of a comprehension in it -/
structure GC (X : Cx) (W : WX) (mg : Str → Option Value) (k : Nat) : Prop where
  nd : X.N.Nodup
  calm : X.calm = true
  tk : Takes X W
  room : Room k X.A
  mgx : X.mg = mg
theorem GC.hu {X : Cx} {W : WX} {mg : Str → Option Value} {k : Nat} (g : GC X W mg k) : X.A.units + 65 < cLine := by
  have := g.room.un
  omega
theorem GC.blk {X : Cx} {W : WX} {mg : Str → Option Value} {k : Nat} (g : GC X W mg k) (s : Shared) (H : Hp) (scope : Scope) (cenv : Env) (fp : List Addr) : GC (X.blk s H scope cenv fp) noX mg k :=
  ⟨g.nd, g.calm, fun u s' ⟨a, B, sI, pins, σ, H, cls, d, e, I, nb, up, sky, na, os, ag, w⟩ => w.elim, g.room, g.mgx⟩
theorem gc_def {P : Program} {w : World} {K : PySem.W.Frag} {mg : Str → Option Value} {base : Heap} {N : List Str} {qual : Str} {sc : Scope} {f : Addr} {cdv : Value} {A : Around} {outer : List Env} {s : Shared} {H : Hp} {E : XK} {k : Nat} (hN : N.Nodup)
    (hr : Room k (A.deeper (envOfC qual sc s.heap.objs.size f cdv))) : GC (cxOf (L2.CX P w) P w K mg base N qual sc f cdv A outer s H E) (fun cls d _ H => E cls d H) mg k :=
  ⟨hN, rfl, takes_of rfl rfl rfl rfl, hr, rfl⟩

section
variable {K : PySem.W.Frag} {mg : Str → Option Value} {W : WX} {σ : L2.St} {H : Hp}
theorem upE_imp {f f' : LE} {Q : VK} (i : ∀ env st Q E, f' env st Q E → f env st Q E) (h : upE K mg W f' σ H Q) : upE K mg W f σ H Q := let ⟨ω, env, st, Qd, Ed, R, t, r⟩ := h; ⟨ω, env, st, Qd, Ed, R, i _ _ _ _ t, r⟩
end
/-! ### comparisons -/
def cmpX (op : CmpOp) (st : DSto) (x y : Va) (Q : D → Prop) : Prop := match op with
  | .Eq => eqX false st x y Q
  | .NotEq => eqX true st x y Q
  | .Lt => cmpI (fun i j => decide (i < j)) st x y Q
  | .LtE => cmpI (fun i j => decide (i ≤ j)) st x y Q
  | .Gt => cmpI (fun i j => decide (j < i)) st x y Q
  | .GtE => cmpI (fun i j => decide (j ≤ i)) st x y Q
  | .Is => isX false st x y Q
  | .IsNot => isX true st x y Q
  | .In => inX false st x y Q
  | .NotIn => inX true st x y Q
theorem cmp_all {X : Cx} {mg : Str → Option Value} (hu : X.A.units + 65 < cLine) (op : CmpOp) : ∃ r : R2, OpR X (compareOp op) r ∧ Lift2 X.K mg r (cmpX op) := by
  cases op with
  | Eq => exact ⟨_, op_eqD (by omega), lift_eq⟩
  | NotEq => exact ⟨_, op_neD (by omega), lift_ne⟩
  | Lt => exact ⟨_, op_lt, lift_cmpI⟩
  | LtE => exact ⟨_, op_le, lift_cmpI⟩
  | Gt => exact ⟨_, op_gt, lift_cmpI⟩
  | GtE => exact ⟨_, op_ge, lift_cmpI⟩
  | Is => exact ⟨_, op_isC, lift_is false⟩
  | IsNot => exact ⟨_, op_isNotC, lift_is true⟩
  | In => exact ⟨_, op_inX hu, lift_in false⟩
  | NotIn => exact ⟨_, op_notInX hu, lift_in true⟩
/-- a built-in class by its name -/
def kitAnyB (a : String) : List String → Option Bool
  | [] => some false
  | b :: bs => match kitB a b with
    | some true => some true
    | some false => kitAnyB a bs
    | none => none
theorem kitAnyB_of {K : PySem.W.Frag} {a : String} : ∀ {bs : List String} {r : Bool}, kitAnyB a bs = some r → PySem.W.kitAny K (.type a) (bs.map Value.type) = some r
  | [], r, h => by rw [← h]; rfl
  | b :: bs, r, h => by
    unfold kitAnyB at h
    split at h
    · rename_i e
      exact kitAny_cons (kit_ty e) (fun z => by cases z) fun _ => (Option.some.inj h).symm
    · rename_i e
      exact kitAny_cons (kit_ty e) (fun _ => kitAnyB_of h) fun z => by cases z
    · cases h
/-- the answers for data of built-in classes -/
def ansB (bs : List String) : TyK → Option Bool
  | .bt a => kitAnyB a bs
  | .own _ => none
theorem ansB_ok {K : PySem.W.Frag} {mg : Str → Option Value} {bs : List String} : ∀ t b, ansB bs t = some b → KAns K mg (bs.map Value.type) t b
  | .bt a, b, h => kitAnyB_of h
  | .own _, b, h => by cases h
/-! ### pieces: expressions -/
def getE : Nat → DEnv → (Va → Prop) → Prop
  | 0, env, k => match env with
    | some v :: _ => k v
    | _ => False
  | i + 1, env, k => match env with
    | _ :: env => getE i env k
    | [] => False
theorem getE_V : ∀ {i : Nat} {env : DEnv} {k : Va → Prop}, getE i env k → getV env i k
  | 0, some v :: _, k, h => h
  | 0, none :: _, k, h => h.elim
  | 0, [], k, h => h.elim
  | i + 1, x :: env, k, h => by
    have q := getE_V (i := i) (env := env) h
    unfold getV at q ⊢
    rw [List.getElem?_cons_succ]
    exact q
  | i + 1, [], k, h => h.elim
def varL (i : Nat) : LE := fun env st Q E => getE i env fun v => Q v st
def datL (d : D) : LE := fun env st Q E => Q (.dat d) st
def opL (f : DSto → Va → Va → (D → Prop) → Prop) (ta tb : LE) : LE := fun env st Q E => ta env st (fun x s1 => tb env s1 (fun y s2 => f s2 x y fun d => Q (.dat d) s2) E) E
def unL (f : DSto → Va → (D → Prop) → Prop) (ta : LE) : LE := fun env st Q E => ta env st (fun x s1 => f s1 x fun d => Q (.dat d) s1) E
def catL (own : Bool) (ta tb : LE) : LE := fun env st Q E => ta env st (fun x s1 => tb env s1 (fun y s2 => ∃ as bs, lstX s2 x = some as ∧ lstX s2 y = some bs ∧ as.length + bs.length ≤ sizeLine ∧ newL own (as ++ bs) s2 Q) E) E
def notL (ta : LE) : LE := fun env st Q E => ta env st (fun x s => truX s x fun k => Q (.dat (.bl (!k))) s) E
def vandL (ta tb : LE) : LE := fun env st Q E => ta env st (fun x s => truX s x fun k => IteB k (tb env s Q E) (Q x s)) E
def vorL (ta tb : LE) : LE := fun env st Q E => ta env st (fun x s => truX s x fun k => IteB k (Q x s) (tb env s Q E)) E
def ifxL (t : LT) (ta tb : LE) : LE := fun env st Q E => t env st (fun k s => IteB k (ta env s Q E) (tb env s Q E)) E
def nilL : LA := fun env st Q E => Q [] st
def consL (ta : LE) (t : LA) : LA := fun env st Q E => ta env st (fun x s1 => t env s1 (fun xs s2 => Q (x :: xs) s2) E) E
def tupL (t : LA) : LE := fun env st Q E => t env st (fun xs s1 => useAll xs s1 fun ds s2 => ds.length ≤ sizeLine ∧ Q (.dat (.tup ds)) s2) E
def lstL (own : Bool) (t : LA) : LE := fun env st Q E => t env st (fun xs s1 => useAll xs s1 fun ds s2 => ds.length ≤ sizeLine ∧ newL own ds s2 Q) E
def oneO (te : LE) : LO := fun env st Q E => te env st (fun x s1 => match x with | .dat (.int i) => Q (some i) s1 | _ => False) E
def noneO : LO := fun env st Q E => Q none st
def slL (te : LE) (tl th : LO) : LE := fun env st Q E => te env st (fun x s1 => tl env s1 (fun lo s2 => th env s2 (fun hi s3 => slX s3 x lo hi fun d => Q (.dat d) s3) E) E) E
/-- a place: the thing there -/
def ixE (st : DSto) (x y : Va) (Q : D → Prop) : Prop := match y with
  | .dat (.int i) => match x with
    | .dat (.str z) => z.length ≤ sizeLine ∧ ∃ c, atI z.cps.toList i = some c ∧ Q (.str ⟨#[c]⟩)
    | x => ∃ ds, seqX st x = some ds ∧ ∃ d, atI ds i = some d ∧ Q d
  | _ => False
theorem ixE_X {st : DSto} {x y : Va} {Q : D → Prop} (h : ixE st x y Q) : ixX st x y Q := by
  have seq : ∀ {x : Va} {i : Int}, (∃ ds, seqX st x = some ds ∧ ∃ d, atI ds i = some d ∧ Q d) → (match seqX st x with | some ds => (match atI ds i with | some d => Q d | none => False) | none => False) := fun ⟨ds, h1, d, h2, h3⟩ => by
    rw [h1]
    show match atI ds _ with | some d => Q d | none => False
    rw [h2]
    exact h3
  cases y with
  | loc n => exact h.elim
  | dat y =>
    cases y with
    | int i =>
      cases x with
      | loc n => exact seq (x := .loc n) h
      | dat x =>
        cases x with
        | str z =>
          obtain ⟨h1, c, h2, h3⟩ := h
          refine ⟨h1, ?_⟩
          show match atI z.cps.toList i with | some c => Q (.str ⟨#[c]⟩) | none => False
          rw [h2]
          exact h3
        | tup ds => exact seq (x := .dat (.tup ds)) h
        | lst ds => exact seq (x := .dat (.lst ds)) h
        | _ => obtain ⟨ds, h1, _⟩ := h; cases h1
    | _ => exact h.elim
theorem lift_ixE {K : PySem.W.Frag} {mg : Str → Option Value} : Lift2 K mg (rIxX K) ixE := fun ω H σ env st v u x y Qd Q R rx ry h hQ => lift_ix ω H σ env st v u x y Qd Q R rx ry (ixE_X h) hQ
def callL (n : Nat) (S : SpecD) (t : LA) : LE := fun env st Q E => t env st (fun xs s1 => useAll xs s1 fun ds s2 => ds.length = n ∧ S ds (fun d => Q (.dat d) s2) (fun ex => E ex s2)) E
def callkL (n : Nat) (perm : List Nat) (S : SpecD) (t : LA) : LE := fun env st Q E => t env st (fun ys s1 => useAll ys s1 fun es s2 => es.length = n ∧ S (perm.map fun i => es.getD i .non) (fun d => Q (.dat d) s2) (fun ex => E ex s2)) E
def call0L (n : Nat) (S : SpecD) : LE := fun env st Q E => ([] : List D).length = n ∧ S [] (fun d => Q (.dat d) st) (fun ex => E ex st)
def bltL (f : DSto → List Va → (D → Prop) → Prop) (t : LA) : LE := fun env st Q E => t env st (fun xs s1 => f s1 xs fun d => Q (.dat d) s1) E
def zipL (own : Bool) (t : LA) : LE := fun env st Q E => t env st (fun xs s1 => match xs with
      | [.dat (.tup as), .dat (.tup bs)] => as.length = bs.length ∧ newL own (zipD as bs) s1 Q
      | _ => False) E
def isiL (Ts : List String) (ta : LE) : LE := fun env st Q E => ta env st (fun x s1 => ∃ b, isiX (ansB Ts) x = some b ∧ Q (.dat (.bl b)) s1) E
def appendL (to te : LE) : LE := fun env st Q E => to env st (fun x s1 => (ownX s1 x).isSome = true ∧ te env s1 (fun y s2 => use y s2 fun d s3 => ∃ n ds, ownX s3 x = some (n, ds) ∧ ds.length < sizeLine ∧ Q (.dat .non) (s3.set n (true, ds ++ [d]))) E) E
def popL (to : LE) : LE := fun env st Q E => to env st (fun x s1 => ∃ n ds d, ownX s1 x = some (n, ds ++ [d]) ∧ Q (.dat d) (s1.set n (true, ds))) E
def lcL (own : Bool) (tg : Tg) (vs : List Nat) (ti : LI) (tt : LT) (te : LE) : LE := fun env st Q E => ti env st (fun items gd s1 => compL tg tt te vs env s1 (guard gd items) (fun acc => newL own acc s1 Q) items []) E
/-! tests -/
def cmpT (op : CmpOp) (ta tb : LE) : LT := fun env st Q E => ta env st (fun x s1 => tb env s1 (fun y s2 => cmpX op s2 x y (asB fun k => Q k s2)) E) E
def chainT (op op' : CmpOp) (ta tb tc : LE) : LT := fun env st Q E => ta env st (fun x s1 => tb env s1 (fun y s2 => cmpX op s2 x y (asB fun k => IteB k (tc env s2 (fun z s3 => cmpX op' s3 y z (asB fun j => Q j s3)) E) (Q false s2))) E) E
def notT (t : LT) : LT := fun env st Q E => t env st (fun k s => Q (!k) s) E
def andT (t u : LT) : LT := fun env st Q E => t env st (fun k s => IteB k (u env s Q E) (Q false s)) E
def orT (t u : LT) : LT := fun env st Q E => t env st (fun k s => IteB k (Q true s) (u env s Q E)) E
def truT (ta : LE) : LT := fun env st Q E => ta env st (fun x s1 => truX s1 x fun k => Q k s1) E
def yesT : LT := fun env st Q E => Q true st
/-! walks, targets -/
def seqI (tl : LE) : LI := fun env st Q E => tl env st (fun x s => ∃ ds, seqX s x = some ds ∧ Q ds (gdOf x) s) E
def rng1I (t : LA) : LI := fun env st Q E => t env st (fun xs s => match xs with | [.dat (.int j)] => RngOk j ∧ Q (rangeD 0 j) none s | _ => False) E
def rng2I (t : LA) : LI := fun env st Q E => t env st (fun xs s => match xs with | [.dat (.int i), .dat (.int j)] => RngOk i ∧ RngOk j ∧ Q (rangeD i j) none s | _ => False) E
def nameG (i : Nat) : LG := fun v env st Q => Q (env.set i (some v)) st
def nilG : LGs := fun ds env st Q => match ds with | [] => Q env st | _ :: _ => False
def consG (t : LG) (u : LGs) : LGs := fun ds env st Q => match ds with | [] => False | d :: ds => t (.dat d) env st fun env1 st1 => u ds env1 st1 Q
def seqG (n : Nat) (t : LGs) : LG := fun v env st Q => ∃ ds, seqX st v = some ds ∧ ds.length = n ∧ t ds env st Q
/-! statements -/
def nilS : LS := fun De env st => De.nx env st
def seqS (t u : LS) : LS := fun De env st => t { De with nx := u De } env st
def brkS : LS := fun De env st => De.bk env st
def cntS : LS := fun De env st => De.ct env st
def exprS (te : LE) : LS := fun De env st => te env st (fun _ s => De.nx env s) (fun ex s => De.ex ex env s)
def retS (te : LE) : LS := fun De env st => te env st (fun x s => use x s fun d _ => De.rt d) (fun ex s => De.ex ex env s)
def retNS : LS := fun De env st => De.rt .non
def asgS (te : LE) (lg : LG) : LS := fun De env st => te env st (fun x s => lg x env s De.nx) (fun ex s => De.ex ex env s)
def parS (i j : Nat) (t : LA) : LS := fun De env st => t env st (fun xs s => match xs with | [u, v] => De.nx ((env.set i (some u)).set j (some v)) s | _ => False) (fun ex s => De.ex ex env s)
def ifS (tc : LT) (t u : LS) : LS := fun De env st => tc env st (fun k s => IteB k (t De env s) (u De env s)) (fun ex s => De.ex ex env s)
def whileS (tt : LT) (tb : LS) : LS := fun De env st => ∃ I : Nat → DEnv → DSto → Prop, (∃ m, I m env st) ∧ ∀ m env st, I m env st → tt env st (fun k s => IteB k
      (tb { De with nx := fun env' st' => ∃ m', m' < m ∧ I m' env' st', ct := fun env' st' => ∃ m', m' < m ∧ I m' env' st', bk := De.nx } env s) (De.nx env s)) (fun ex s => De.ex ex env s)
def forS (ti : LI) (lg : LG) (tb : LS) : LS := fun De env st => ti env st (fun items gd s => forL lg tb De (guard gd items) items env s) (fun ex s => De.ex ex env s)
def setLcS (i : Nat) (own : Bool) (tg : Tg) (vs : List Nat) (ti : LI) (tt : LT) (te : LE) : LS := fun De env st => ti env st (fun items gd s1 => compL tg tt te vs env s1 (guard gd items) (fun acc => newL own acc s1 (fun x s2 => De.nx (env.set i (some x)) s2)) items []) (fun ex s => De.ex ex env s)
section
variable {X : Cx} {W : WX} {mg : Str → Option Value} {k : Nat} {a b c : Expr} {ta tb tc : LE} {pos : Pos}
theorem r_cmp (g : GC X W mg k) (op : CmpOp) (ha : PE X a (upE X.K mg W ta)) (hb : PE X b (upE X.K mg W tb)) (hm : behindInMarks op b = false := by rfl) :
    PE X (.Compare a [op] [b] pos) (upE X.K mg W (opL (cmpX op) ta tb)) := by
  obtain ⟨r, h1, h2⟩ := cmp_all (mg := mg) g.hu op
  exact up_cmp h1 h2 ha hb hm
theorem r_tcmp (g : GC X W mg k) (op : CmpOp) (ha : PE X a (upE X.K mg W ta)) (hb : PE X b (upE X.K mg W tb)) (hm : behindInMarks op b = false := by rfl) :
    PT X (.Compare a [op] [b] pos) (upT X.K mg W (cmpT op ta tb)) := by
  obtain ⟨r, h1, h2⟩ := cmp_all (mg := mg) g.hu op
  exact up_tcmp h1 h2 ha hb hm
theorem r_tchain (g : GC X W mg k) (op op' : CmpOp) (ha : PE X a (upE X.K mg W ta)) (hb : PE X b (upE X.K mg W tb)) (hc : PE X c (upE X.K mg W tc)) (hm : lastMarks [op, op'] [b, c] = false := by rfl) :
    PT X (.Compare a [op, op'] [b, c] pos) (upT X.K mg W (chainT op op' ta tb tc)) := by
  obtain ⟨r, h1, h2⟩ := cmp_all (mg := mg) g.hu op
  obtain ⟨r', h1', h2'⟩ := cmp_all (mg := mg) g.hu op'
  exact up_tchain h1 h1' h2 h2' ha hb hc hm
theorem r_neg (ha : PE X a (upE X.K mg W ta)) : PE X (.UnaryOp .USub a pos) (upE X.K mg W (unL negX ta)) := up_un un_neg lift_neg ha
theorem r_ix (ha : PE X a (upE X.K mg W ta)) (hb : PE X b (upE X.K mg W tb)) (hs : PlainIx b := by intro _ _; rfl) :
    PE X (.Subscript a b pos) (upE X.K mg W (opL ixE ta tb)) := up_ix ix_X lift_ixE ha hb hs
theorem r_truth (ha : PE X a (upE X.K mg W ta)) (he : ∀ whole, isTrue a X.env whole = (do let v ← whole; standAt a.pos; holding [v] (truthy v)) := by intro _; rfl) :
    PT X a (upT X.K mg W (truT ta)) := up_truth ha he
theorem r_cons {es : List Expr} {te : LE} {t : LA} (ha : PE X a (upE X.K mg W te)) (hr : PA X es (upA X.K mg W t)) (hs : starEach (a :: es) X.env = (false, eval a X.env) :: starEach es X.env := by rfl) :
    PA X (a :: es) (upA X.K mg W (consL te t)) := up_cons ha hr hs
/-! calls -/
theorem r_call {k0 : Nat} {x : Str} {ps : List Str} {stm : Stmt} {S : SpecD} {e : Expr} {es : List Expr} {t : LA} {p : Pos} (g : GC X W mg k) (C : CalD X.prog X.w X.K mg X.base k0 x ps stm S) (ha : PA X (e :: es) (upA X.K mg W t)) (hk : k0 ≤ k := by decide) (hg : Gl X x := by rfl)
    (hdb : (x == ("__debug__" : Str)) = false := by decide) (he : starEach (e :: es) X.env = (false, eval e X.env) :: starEach es X.env := by rfl) (hpl : (backTo pos (starEach es X.env)).any (·.1) = false := by rfl) :
    PE X (.Call (.Name x p) (e :: es) [] pos) (upE X.K mg W (callL ps.length S t)) := by
  obtain ⟨f, fd, F, Fk, hm, hb⟩ := C.ex
  have hx := g.mgx
  subst hx
  exact up_call Fk (g.room.mono hk) hg hm F.kp hb g.tk ha hdb he hpl
theorem r_call0 {k0 : Nat} {x : Str} {stm : Stmt} {ps : List Str} {S : SpecD} {p : Pos} (g : GC X W mg k) (C : CalD X.prog X.w X.K mg X.base k0 x ps stm S) (hk : k0 ≤ k := by decide) (hg : Gl X x := by rfl) (hdb : (x == ("__debug__" : Str)) = false := by decide) :
    PE X (.Call (.Name x p) [] [] pos) (upE X.K mg W (call0L ps.length S)) := by
  obtain ⟨f, fd, F, Fk, hm, hb⟩ := C.ex
  have hx := g.mgx
  subst hx
  exact up_call0 Fk (g.room.mono hk) hg hm F.kp hb g.tk hdb
/-- how a def's arguments bind to places and keywords -/
def KwOk (x : Str) (stm : Stmt) (ps : List Str) (n : Nat) (ks : List Str) (perm : List Nat) : Prop := ∀ (kV doc pm : Value) (an : Option Addr) (cdv ct : Value) (us ws : List Value), us.length = n → ws.length = ks.length →
  bindArgs (PySem.W.fnOf x x (defArgs stm) (defBody stm) (defScope stm) .none kV doc pm an cdv ct) ⟨us, ks.zip ws⟩ = pure (ps.zip (perm.map fun i => (us ++ ws).getD i .none))
theorem kbinds_of {K : PySem.W.Frag} {x : Str} {stm : Stmt} {f : Addr} {fd : FuncData} {ps : List Str} {n : Nat} {ks : List Str} {perm : List Nat} (F : Fun K x x stm f fd) (h : KwOk x stm ps n ks perm) (h1 : perm.length = ps.length) (h2 : ∀ i ∈ perm, i < n + ks.length) : KBindsD K fd ps n ks perm := by
  obtain ⟨oc, od, kV, doc, pm, an, cdv, ct, osl, rfl, lk, hcd⟩ := F.ex
  exact ⟨h1, h2, fun s us ws _ l1 l2 => .of_eq (h kV doc pm an cdv ct us ws l1 l2)⟩
theorem r_callk0 {k0 : Nat} {x : Str} {ps : List Str} {stm : Stmt} {S : SpecD} {kws : List Keyword} {tk' : LA} {p : Pos} (g : GC X W mg k) (C : CalD X.prog X.w X.K mg X.base k0 x ps stm S) (ks : List Str) (perm : List Nat) (hkb : KwOk x stm ps 0 ks perm) (hkw : PK X kws (upA X.K mg W tk'))
    (h1 : perm.length = ps.length := by rfl) (h2 : ∀ i ∈ perm, i < 0 + ks.length := by decide) (hk : k0 ≤ k := by decide) (hg : Gl X x := by rfl) (hdb : (x == ("__debug__" : Str)) = false := by decide)
    (hall : (backToKw pos (keywordEach kws X.env)).all (·.1.isSome) = true := by rfl) (hks : (backToKw pos (keywordEach kws X.env)).filterMap (·.1) = ks := by rfl) (hpl : ((backTo pos (starEach [] X.env)).any (·.1) || (backToKw pos (keywordEach kws X.env)).any (·.1.isNone)) = false := by rfl) :
    PE X (.Call (.Name x p) [] kws pos) (upE X.K mg W (callkL ks.length perm S tk')) := by
  obtain ⟨f, fd, F, Fk, hm, hb⟩ := C.ex
  have hx := g.mgx
  subst hx
  exact up_callk0 Fk (g.room.mono hk) hg hm F.kp (kbinds_of F hkb h1 h2) g.tk hkw hdb hall hks hpl
/-! built-ins -/
theorem r_len {es : List Expr} {t : LA} {p : Pos} (g : GC X W mg k) (hm : mg "len" = none) (ha : PA X (a :: es) (upA X.K mg W t)) (hg : Gl X "len" := by rfl) (he : starEach (a :: es) X.env = (false, eval a X.env) :: starEach es X.env := by rfl) (hpl : (backTo pos (starEach es X.env)).any (·.1) = false := by rfl) :
    PE X (.Call (.Name "len" p) (a :: es) [] pos) (upE X.K mg W (bltL lenX t)) :=
  up_blt (call_len.or call_len_seq) lift_len hg (by rw [g.mgx]; exact hm) PySem.boot_len ha (by decide) (by decide) he hpl
theorem r_abs {es : List Expr} {t : LA} {p : Pos} (g : GC X W mg k) (hm : mg "abs" = none) (ha : PA X (a :: es) (upA X.K mg W t)) (hg : Gl X "abs" := by rfl) (he : starEach (a :: es) X.env = (false, eval a X.env) :: starEach es X.env := by rfl) (hpl : (backTo pos (starEach es X.env)).any (·.1) = false := by rfl) :
    PE X (.Call (.Name "abs" p) (a :: es) [] pos) (upE X.K mg W (bltL (int1X (fun _ => True) (fun i => .int (if i < 0 then -i else i))) t)) :=
  up_blt (r := fun xs H Q => ∃ i, xs = [.int i] ∧ True ∧ Q (.int (if i < 0 then -i else i)) H) (fun pins s σ H xs us Q I r ⟨i, e, _, q⟩ => call_abs pins s σ H xs us Q I r ⟨i, e, q⟩) (lift_int1 fun _ _ _ => .int _) hg (by rw [g.mgx]; exact hm) PyProof.Rows.boot_abs ha (by decide) (by decide) he hpl
theorem r_max {es : List Expr} {t : LA} {p : Pos} (g : GC X W mg k) (hm : mg "max" = none) (ha : PA X (a :: es) (upA X.K mg W t)) (hg : Gl X "max" := by rfl) (he : starEach (a :: es) X.env = (false, eval a X.env) :: starEach es X.env := by rfl) (hpl : (backTo pos (starEach es X.env)).any (·.1) = false := by rfl) :
    PE X (.Call (.Name "max" p) (a :: es) [] pos) (upE X.K mg W (bltL (int2X (fun _ _ => True) (fun i j => .int (if j > i then j else i))) t)) :=
  up_blt (r := fun xs H Q => ∃ i j, xs = [.int i, .int j] ∧ True ∧ Q (.int (if j > i then j else i)) H) (fun pins s σ H xs us Q I r ⟨i, j, e, _, q⟩ => call_max2 g.calm pins s σ H xs us Q I r ⟨i, j, e, q⟩) (lift_int2 fun _ _ _ _ => .int _) hg (by rw [g.mgx]; exact hm) PyProof.Rows.boot_max ha (by decide) (by decide) he hpl
theorem r_min {es : List Expr} {t : LA} {p : Pos} (g : GC X W mg k) (hm : mg "min" = none) (ha : PA X (a :: es) (upA X.K mg W t)) (hg : Gl X "min" := by rfl) (he : starEach (a :: es) X.env = (false, eval a X.env) :: starEach es X.env := by rfl) (hpl : (backTo pos (starEach es X.env)).any (·.1) = false := by rfl) :
    PE X (.Call (.Name "min" p) (a :: es) [] pos) (upE X.K mg W (bltL (int2X (fun _ _ => True) (fun i j => .int (if j < i then j else i))) t)) :=
  up_blt (r := fun xs H Q => ∃ i j, xs = [.int i, .int j] ∧ True ∧ Q (.int (if j < i then j else i)) H) (fun pins s σ H xs us Q I r ⟨i, j, e, _, q⟩ => call_min2 g.calm pins s σ H xs us Q I r ⟨i, j, e, q⟩) (lift_int2 fun _ _ _ _ => .int _) hg (by rw [g.mgx]; exact hm) PyProof.Rows.boot_min ha (by decide) (by decide) he hpl
theorem r_int {es : List Expr} {t : LA} {p : Pos} (g : GC X W mg k) (hm : mg "int" = none) (ha : PA X (a :: es) (upA X.K mg W t)) (hg : Gl X "int" := by rfl) (he : starEach (a :: es) X.env = (false, eval a X.env) :: starEach es X.env := by rfl) (hpl : (backTo pos (starEach es X.env)).any (·.1) = false := by rfl) :
    PE X (.Call (.Name "int" p) (a :: es) [] pos) (upE X.K mg W (bltL intX1 t)) :=
  up_ty call_int1 lift_intc hg (by rw [g.mgx]; exact hm) PyProof.Rows.boot_int ha (by decide) (by decide) he hpl
theorem r_tupleOf {es : List Expr} {t : LA} {p : Pos} (g : GC X W mg k) (hm : mg "tuple" = none) (ha : PA X (a :: es) (upA X.K mg W t)) (hg : Gl X "tuple" := by rfl) (he : starEach (a :: es) X.env = (false, eval a X.env) :: starEach es X.env := by rfl) (hpl : (backTo pos (starEach es X.env)).any (·.1) = false := by rfl) :
    PE X (.Call (.Name "tuple" p) (a :: es) [] pos) (upE X.K mg W (bltL tupX t)) :=
  up_ty call_tuple_of lift_tup hg (by rw [g.mgx]; exact hm) PyProof.Rows.boot_tuple ha (by decide) (by decide) he hpl
theorem r_listZip {e2 : Expr} {t : LA} {p p2 pos2 : Pos} (g : GC X W mg k) (own : Bool) (hm : mg "zip" = none) (hm2 : mg "list" = none) (ha : PA X [a, e2] (upA X.K mg W t)) (hg : Gl X "zip" := by rfl) (hg2 : Gl X "list" := by rfl)
    (hs : starEach [a, e2] X.env = (false, eval a X.env) :: starEach [e2] X.env := by rfl) (hpl : (backTo pos (starEach [e2] X.env)).any (·.1) = false := by rfl)
    (hs2 : starEach [(.Call (.Name "zip" p) [a, e2] [] pos : Expr)] X.env = (false, eval (.Call (.Name "zip" p) [a, e2] [] pos) X.env) :: starEach [] X.env := by rfl) :
    PE X (.Call (.Name "list" p2) [.Call (.Name "zip" p) [a, e2] [] pos] [] pos2) (upE X.K mg W (zipL own t)) := up_listZip own g.calm hg (by rw [g.mgx]; exact hm) hg2 (by rw [g.mgx]; exact hm2) ha hs hpl hs2
theorem r_isi {n : Str} {p q : Pos} (g : GC X W mg k) (T : String) (hm : mg "isinstance" = none) (hmT : mg n = none) (ha : PE X a (upE X.K mg W ta)) (hv : bootBuiltins n = some (.type T)) (hg : Gl X "isinstance" := by rfl) (hgT : Gl X n := by rfl) (hn : n ≠ "__name__" := by decide) (hd : (n == ("__debug__" : Str)) = false := by decide)
    (hs : starEach [a, .Name n q] X.env = (false, eval a X.env) :: starEach [.Name n q] X.env := by rfl) (hs2 : starEach [(.Name n q : Expr)] X.env = (false, eval (.Name n q) X.env) :: starEach [] X.env := by rfl) (hpl : (backTo pos (starEach [(.Name n q : Expr)] X.env)).any (·.1) = false := by rfl) :
    PE X (.Call (.Name "isinstance" p) [a, .Name n q] [] pos) (upE X.K mg W (isiL [T] ta)) :=
  up_isi (ansB [T]) (ansB_ok (bs := [T])) (ClsV.ty T) hg (by rw [g.mgx]; exact hm) ha (pe_bltn hgT (by rw [g.mgx]; exact hmT) hv rfl hn hd) hs hs2 hpl
theorem pcls_nil : PCls X [] [] [] := .nil
theorem pcls_ty {n : Str} {q : Pos} {ns : List Expr} {cs : List V} {us : List Value} (g : GC X W mg k) (T : String) (hmT : mg n = none) (hv : bootBuiltins n = some (.type T)) (hr : PCls X ns cs us) (hgT : Gl X n := by rfl) (hn : n ≠ "__name__" := by decide) (hd : (n == ("__debug__" : Str)) = false := by decide)
    (hs : starEach (.Name n q :: ns) X.env = (false, eval (.Name n q) X.env) :: starEach ns X.env := by rfl) : PCls X (.Name n q :: ns) (.ty T :: cs) (.type T :: us) :=
  .cons (ClsV.ty T) (pe_bltn hgT (by rw [g.mgx]; exact hmT) hv rfl hn hd) hs hr
theorem r_isiT {ns : List Expr} {kk : Nat} {cs : List V} {p tpos : Pos} (g : GC X W mg k) (Ts : List String) (hm : mg "isinstance" = none) (ha : PE X a (upE X.K mg W ta)) (hn : PCls X ns cs (Ts.map Value.type)) (hl : ns.length ≤ sizeLine := by decide) (hg : Gl X "isinstance" := by rfl)
    (hs : starEach [a, .Tuple ns kk tpos] X.env = (false, eval a X.env) :: starEach [.Tuple ns kk tpos] X.env := by rfl) (hs2 : starEach [(.Tuple ns kk tpos : Expr)] X.env = (false, eval (.Tuple ns kk tpos) X.env) :: starEach [] X.env := by rfl)
    (hpl : (backTo pos (starEach [(.Tuple ns kk tpos : Expr)] X.env)).any (·.1) = false := by rfl) :
    PE X (.Call (.Name "isinstance" p) [a, .Tuple ns kk tpos] [] pos) (upE X.K mg W (isiL Ts ta)) :=
  up_isiT (ansB Ts) (ansB_ok (bs := Ts)) hg (by rw [g.mgx]; exact hm) ha hn hl hs hs2 hpl
end
section
variable {X : Cx} {W : WX} {mg : Str → Option Value} {k : Nat} {a b c e : Expr} {ta tb tc te : LE} {pos : Pos}
theorem r_var {x : Str} (i : Nat) (hN : X.N[i]? = some x := by rfl) (hv : Vis X.env.scope x := by first | exact Or.inl rfl | exact Or.inr (Or.inl rfl) | exact Or.inr (Or.inr rfl)) (hd : (x == ("__debug__" : Str)) = false := by decide) (hcd : (x == ("__classdict__" : Str)) = false := by decide) :
    PE X (.Name x pos) (upE X.K mg W (varL i)) := (up_var i hN hv hd hcd).imp fun σ H Q h => upE_imp (fun env st Q E h => getE_V h) h
theorem r_gn {x : Str} (g : GC X W mg k) (i : Nat) (hi : X.N[i]? = some x := by rfl) (hx : Loc X.env.scope x := by first | exact Or.inl rfl | exact Or.inr rfl) (hf : X.fn x = true ∨ X.env.scope.names.lookup x = some .local := by first | exact Or.inl rfl | exact Or.inr rfl) :
    PG X (.Name x pos) (upG X.K mg (nameG i)) := up_gname g.nd hi hx hf
theorem r_gcons {es : List Expr} {t : LG} {u : LGs} (h1 : PG X e (upG X.K mg t)) (h2 : PGs X es (upGs X.K mg u)) (hs : assignEach (e :: es) X.env = (false, assign e X.env) :: assignEach es X.env := by rfl) :
    PGs X (e :: es) (upGs X.K mg (consG t u)) := up_gcons h1 h2 hs
theorem r_gseq {es : List Expr} {kk : Nat} {t : LGs} (g : GC X W mg k) (n : Nat) (h : PGs X es (upGs X.K mg t)) (hn : (assignEach es X.env).length = n := by rfl) (hst : (assignEach es X.env).findIdx? (·.1) = none := by rfl) :
    PG X (.Tuple es kk pos) (upG X.K mg (seqG n t)) := up_gseq g.calm h hn hst
theorem r_asg {tg : Expr} {lg : LG} (he : PE X e (upE X.K mg W te)) (hg : PG X tg (upG X.K mg lg)) (hs : swapsWithSole [tg] e pos.line X.env = pure false := by rfl) (hw : swappedStores [tg] e X.env = pure none := by rfl) (h1 : (assignEach [tg] X.env).map (·.2) = [assign tg X.env] := by rfl) :
    PS X (.Assign [tg] e pos) (upS X.K mg W (asgS te lg)) := up_asg he hg hs hw h1
theorem r_par {x y : Str} {t : LA} {px py pt : Pos} {kt k2 : Nat} {pt2 : Pos} (g : GC X W mg k) (i j : Nat) (ha : PA X [a, b] (upA X.K mg W t)) (hi : X.N[i]? = some x := by rfl) (hj : X.N[j]? = some y := by rfl) (hij : i ≠ j := by decide) (hlx : X.env.kindOf x = some .local := by rfl) (hly : X.env.kindOf y = some .local := by rfl)
    (hsw : swappedStores [.Tuple [.Name x px, .Name y py] kt pt] (.Tuple [a, b] k2 pt2) X.env = pure (some [x, y]) := by rfl) :
    PS X (.Assign [.Tuple [.Name x px, .Name y py] kt pt] (.Tuple [a, b] k2 pt2) pos) (upS X.K mg W (parS i j t)) :=
  up_par g.calm g.nd hi hj hij hlx hly ha hsw
theorem r_expr (he : PE X e (upE X.K mg W te)) (hs : swapsWith e none pos.line X.env = pure false := by rfl) : PS X (.Expr e pos) (upS X.K mg W (exprS te)) := up_expr he hs
theorem r_while {body : List Stmt} {tt : LT} {tb : LS} (hp : PassesOwn (model X.prog X.w) X.A X.env X.xe) (hc : PT X c (upT X.K mg W tt)) (hb : PSs X body (upS X.K mg W tb)) :
    PS X (.While c body [] pos) (upS X.K mg W (whileS tt tb)) := up_while hp hc hb
theorem r_for {tg iter : Expr} {body : List Stmt} {ti : LI} {lg : LG} {tb : LS} (g : GC X W mg k) (hp : PassesOwn (model X.prog X.w) X.A X.env X.xe) (hi : PI X tg iter (upI X.K mg W ti)) (hg : PG X tg (upG X.K mg lg)) (hb : PSs X body (upS X.K mg W tb))
    (hs : ∀ x, foldedSetIterable iter X.env x = pure x := by intro _; rfl) : PS X (.For tg iter body [] pos) (upS X.K mg W (forS ti lg tb)) := up_for hp g.calm hi hg hb hs
theorem r_range1 {tg : Expr} {t : LA} {p : Pos} (g : GC X W mg k) (hm : mg "range" = none) (ha : PA X [a] (upA X.K mg W t)) (hg : Gl X "range" := by rfl) (hs : starEach [a] X.env = [(false, eval a X.env)] := by rfl) :
    PI X tg (.Call (.Name "range" p) [a] [] pos) (upI X.K mg W (rng1I t)) := up_irange1 hg (by rw [g.mgx]; exact hm) ha hs
theorem r_range2 {tg : Expr} {t : LA} {p : Pos} (g : GC X W mg k) (hm : mg "range" = none) (ha : PA X [a, b] (upA X.K mg W t)) (hg : Gl X "range" := by rfl) (hs : starEach [a, b] X.env = [(false, eval a X.env), (false, eval b X.env)] := by rfl) (hs2 : starEach [b] X.env = [(false, eval b X.env)] := by rfl) :
    PI X tg (.Call (.Name "range" p) [a, b] [] pos) (upI X.K mg W (rng2I t)) := up_irange2 hg (by rw [g.mgx]; exact hm) ha hs hs2
theorem r_append {o : Expr} {to : LE} {apos cpos : Pos} (ho : PE X o (upE X.K mg W to)) (he : PE X e (upE X.K mg W te)) (hbase : attributeBase o "append" X.env (eval o X.env) = eval o X.env := by rfl)
    (hfew : ((backTo cpos (starEach [e] X.env)).all (fun x => !x.1) && (backToKw cpos (keywordEach [] X.env)).all (fun x => x.1.isSome) && decide (([e] : List Expr).length + ([] : List Keyword).length + (if ([] : List Keyword).isEmpty then 0 else 1) < 30)) = true := by rfl)
    (hline : (apos.endLine == cpos.line) = true := by rfl) (hs : starEach [e] X.env = (false, eval e X.env) :: starEach [] X.env := by rfl) :
    PE X (.Call (.Attribute o "append" apos) [e] [] cpos) (upE X.K mg W (appendL to te)) :=
  up_append ho ((up_cons he up_nil hs).imp fun σ H Q h => h) hbase hfew hline hs
theorem r_pop {o : Expr} {to : LE} {apos cpos : Pos} (ho : PE X o (upE X.K mg W to)) (hbase : attributeBase o "pop" X.env (eval o X.env) = eval o X.env := by rfl) (hline : (apos.endLine == cpos.line) = true := by rfl) :
    PE X (.Call (.Attribute o "pop" apos) [] [] cpos) (upE X.K mg W (popL to)) := up_pop ho hbase hline
/-! comprehensions -/
theorem r_lc {elt tgE iter : Expr} {ifs : List Expr} {scope : Scope} {ti : LI} {tt : LT} {te : LE} (g : GC X W mg k) (isOwn : Bool) (tg : Tg) (own : List (Str × Nat)) (hi : PI X tgE iter (upI X.K mg W ti))
    (h : ∀ (s : Shared) (H : Hp) (C : Addr) (cl : List (Str × Addr)) (fp : List Addr), GC (X.blk s H scope (compEnvC scope cl C X.env) fp) noX mg k → PG (X.blk s H scope (compEnvC scope cl C X.env) fp) tgE (tgV X.K tg) ∧ PTs (X.blk s H scope (compEnvC scope cl C X.env) fp) ifs (upT X.K mg noX tt) ∧ PE (X.blk s H scope (compEnvC scope cl C X.env) fp) elt (upE X.K mg noX te))
    (ok : blkC X.N X.env.scope scope own = true := by rfl) (hvs : ∀ i ∈ tg.slots, i ∈ own.map (·.2) := by decide) (hs : ∀ x, foldedSetIterable iter X.env x = pure x := by intro _; rfl) :
    PE X (.ListComp elt [⟨tgE, iter, ifs, 0⟩] scope pos) (upE X.K mg W (lcL isOwn tg (own.map (·.2)) ti tt te)) :=
  up_lc isOwn hvs g.calm g.nd hi (blkOk_by ok) (fun s H C cl fp => (h s H C cl fp (g.blk _ _ _ _ _)).1) (fun s H C cl fp => (h s H C cl fp (g.blk _ _ _ _ _)).2.1) (fun s H C cl fp => (h s H C cl fp (g.blk _ _ _ _ _)).2.2) hs
theorem r_setLc {y : Str} {py spos : Pos} {elt tgE iter : Expr} {ifs : List Expr} {scope : Scope} {ti : LI} {tt : LT} {te : LE} (g : GC X W mg k) (i : Nat) (isOwn : Bool) (tg : Tg) (own : List (Str × Nat)) (hi : PI X tgE iter (upI X.K mg W ti))
    (h : ∀ (s : Shared) (H : Hp) (C : Addr) (cl : List (Str × Addr)) (fp : List Addr), GC (X.blk s H scope (compEnvC scope cl C X.env) fp) noX mg k → PG (X.blk s H scope (compEnvC scope cl C X.env) fp) tgE (tgV X.K tg) ∧ PTs (X.blk s H scope (compEnvC scope cl C X.env) fp) ifs (upT X.K mg noX tt) ∧ PE (X.blk s H scope (compEnvC scope cl C X.env) fp) elt (upE X.K mg noX te))
    (ok : blkC X.N X.env.scope scope own = true := by rfl) (hvs : ∀ i ∈ tg.slots, i ∈ own.map (·.2) := by decide) (hy : X.N[i]? = some y := by rfl) (hyl : X.env.scope.names.lookup y = some .local := by rfl)
    (hsw : swapsWith (.ListComp elt [⟨tgE, iter, ifs, 0⟩] scope pos) (some (.Name y py)) spos.line X.env = pure true := by rfl) (hs : ∀ x, foldedSetIterable iter X.env x = pure x := by intro _; rfl) :
    PS X (.Assign [.Name y py] (.ListComp elt [⟨tgE, iter, ifs, 0⟩] scope pos) spos) (upS X.K mg W (setLcS i isOwn tg (own.map (·.2)) ti tt te)) :=
  up_setLc isOwn hvs g.calm g.nd hy hyl hsw hi (blkOk_by ok) (fun s H C cl fp => (h s H C cl fp (g.blk _ _ _ _ _)).1) (fun s H C cl fp => (h s H C cl fp (g.blk _ _ _ _ _)).2.1) (fun s H C cl fp => (h s H C cl fp (g.blk _ _ _ _ _)).2.2) hs
/-- the targets of a comprehension -/
theorem r_tg1 {x : Str} (g : GC X W mg k) (i : Nat) (hi : X.N[i]? = some x := by rfl) (hx : Loc X.env.scope x := by first | exact Or.inl rfl | exact Or.inr rfl) (hf : X.fn x = true ∨ X.env.scope.names.lookup x = some .local := by first | exact Or.inl rfl | exact Or.inr rfl) :
    PG X (.Name x pos) (tgV X.K (.one i)) := pg_name g.nd hi hx hf
theorem r_tgn0 : PGs X [] (gNames []) := pgs_nil
theorem r_tgn {x : Str} {es : List Expr} {is : List Nat} {p : Pos} (g : GC X W mg k) (i : Nat) (hr : PGs X es (gNames is)) (hi : X.N[i]? = some x := by rfl) (hx : Loc X.env.scope x := by first | exact Or.inl rfl | exact Or.inr rfl) (hf : X.fn x = true ∨ X.env.scope.names.lookup x = some .local := by first | exact Or.inl rfl | exact Or.inr rfl)
    (hs : assignEach (.Name x p :: es) X.env = (false, assign (.Name x p) X.env) :: assignEach es X.env := by rfl) : PGs X (.Name x p :: es) (gNames (i :: is)) := pgs_cons (pg_name g.nd hi hx hf) hr (by rw [hs] <;> rfl)
theorem r_tgm {es : List Expr} {kk : Nat} (g : GC X W mg k) (is : List Nat) (h : PGs X es (gNames is)) (hn : (assignEach es X.env).length = is.length := by rfl) (hst : (assignEach es X.env).findIdx? (·.1) = none := by rfl) : PG X (.Tuple es kk pos) (tgV X.K (.many is)) := pg_tup g.calm h hn hst
/-- the tests of a comprehension -/
theorem r_ifs0 : PTs X [] (upT X.K mg W yesT) := ⟨fun pins s σ H Q I ⟨ω, env, st, Qd, Ed, R, t, hQ, hE⟩ => pts_nil.run pins s σ H Q I (hQ true st ω H (.refl _ _) R t)⟩
theorem r_ifs {t : LT} (h : PT X e (upT X.K mg W t)) : PTs X [e] (upT X.K mg W t) := pts_one h
end
section
variable {P : Program} {w : World} {K : PySem.W.Frag} {mg : Str → Option Value} {base : Heap}
theorem ok_defG {x qual : Str} {st : Stmt} {f : Addr} {fd : FuncData} {N ps : List Str} {k : Nat} {S : SpecD} (F : Fun K x qual st f fd) (sc : FnScope N ps (defScope st))
    (hb : ∀ (X : Cx) (W : WX) (cdv : Value) (A : Around) (outer : List Env) (s : Shared) (H : Hp) (E : XK), X = cxOf (L2.CX P w) P w K mg base N qual (defScope st) f cdv A outer s H E → W = (fun cls d _ H => E cls d H) →
      GC (cxOf (L2.CX P w) P w K mg base N qual (defScope st) f cdv A outer s H E) W mg k → PassesOwn (model P w) (cxOf (L2.CX P w) P w K mg base N qual (defScope st) f cdv A outer s H E).A (cxOf (L2.CX P w) P w K mg base N qual (defScope st) f cdv A outer s H E).env (cxOf (L2.CX P w) P w K mg base N qual (defScope st) f cdv A outer s H E).xe →
      ∃ t : LS, PSs (cxOf (L2.CX P w) P w K mg base N qual (defScope st) f cdv A outer s H E) (defBody st) (upS K mg W t) ∧
        ∀ ds Q E', S ds Q E' → ds.length = ps.length → t ⟨fun _ _ => Q .non, Q, fun _ _ => False, fun _ _ => False, fun ex _ _ => E' ex⟩ (startD N ds) []) :
    FnOk P w K mg base (L2.CX P w) (k + 1) f fd ps (liftSp K mg ps.length S) :=
  ok_def F sc fun cdv A outer s H E hr => hb _ _ cdv A outer s H E rfl rfl (gc_def sc.nd hr) (L2.passes_of rfl)
end
section
variable {X : Cx} {W : WX} {mg : Str → Option Value} {k : Nat} {a b c e : Expr} {ta tb tc te : LE} {pos : Pos}
theorem n_int {i : Int} {j : Nat} : PE X (.Constant (.int i) j pos) (upE X.K mg W (datL (.int i))) := up_int
theorem n_str {i : Str} {j : Nat} : PE X (.Constant (.str i) j pos) (upE X.K mg W (datL (.str i))) := up_str
theorem n_bl {i : Bool} {j : Nat} : PE X (.Constant (.bool i) j pos) (upE X.K mg W (datL (.bl i))) := up_bl
theorem n_non {j : Nat} : PE X (.Constant .none j pos) (upE X.K mg W (datL .non)) := up_non
theorem n_bin (op : Operator) (ha : PE X a (upE X.K mg W ta)) (hb : PE X b (upE X.K mg W tb)) : PE X (.BinOp a op b pos) (upE X.K mg W (opL (binX op) ta tb)) := up_bin op ha hb
theorem n_cat (own : Bool) (ha : PE X a (upE X.K mg W ta)) (hb : PE X b (upE X.K mg W tb)) : PE X (.BinOp a .Add b pos) (upE X.K mg W (catL own ta tb)) := up_cat own ha hb
theorem n_vnot (ha : PE X a (upE X.K mg W ta)) : PE X (.UnaryOp .Not a pos) (upE X.K mg W (notL ta)) := up_vnot ha
theorem n_vone {op : BoolOp} (ha : PE X a (upE X.K mg W ta)) : PE X (.BoolOp op [a] pos) (upE X.K mg W ta) := up_vone ha
theorem n_vand {rest : List Expr} (ha : PE X a (upE X.K mg W ta)) (hb : PE X (.BoolOp .And (b :: rest) pos) (upE X.K mg W tb)) : PE X (.BoolOp .And (a :: b :: rest) pos) (upE X.K mg W (vandL ta tb)) := up_vand ha hb
theorem n_vor {rest : List Expr} (ha : PE X a (upE X.K mg W ta)) (hb : PE X (.BoolOp .Or (b :: rest) pos) (upE X.K mg W tb)) : PE X (.BoolOp .Or (a :: b :: rest) pos) (upE X.K mg W (vorL ta tb)) := up_vor ha hb
theorem n_ifx {t : LT} (hc : PT X c (upT X.K mg W t)) (ha : PE X a (upE X.K mg W ta)) (hb : PE X b (upE X.K mg W tb)) : PE X (.IfExp c a b pos) (upE X.K mg W (ifxL t ta tb)) := up_ifx hc ha hb
theorem n_nil : PA X [] (upA X.K mg W nilL) := up_nil
theorem n_tup {es : List Expr} {t : LA} {kk : Nat} (h : PA X es (upA X.K mg W t)) : PE X (.Tuple es kk pos) (upE X.K mg W (tupL t)) := up_tup h
theorem n_lst {es : List Expr} {t : LA} (own : Bool) (h : PA X es (upA X.K mg W t)) : PE X (.List es pos) (upE X.K mg W (lstL own t)) := up_lst own h
theorem n_o0 : PO X none (upO X.K mg W noneO) := up_none
theorem n_o1 (h : PE X e (upE X.K mg W te)) : PO X (some e) (upO X.K mg W (oneO te)) := up_some h
theorem n_sl {lo hi : Option Expr} {tl th : LO} {p2 : Pos} (he : PE X e (upE X.K mg W te)) (hl : PO X lo (upO X.K mg W tl)) (hu : PO X hi (upO X.K mg W th)) : PE X (.Subscript e (.Slice lo hi none p2) pos) (upE X.K mg W (slL te tl th)) := up_sl he hl hu
theorem n_knil : PK X [] (upA X.K mg W nilL) := up_knil
theorem n_kcons {kws : List Keyword} {nm : Option Str} {kpos : Pos} {t : LA} (ha : PE X e (upE X.K mg W te)) (hr : PK X kws (upA X.K mg W t)) : PK X (⟨nm, e, kpos⟩ :: kws) (upA X.K mg W (consL te t)) := up_kcons ha hr
theorem n_tnot {t : LT} (ha : PT X a (upT X.K mg W t)) : PT X (.UnaryOp .Not a pos) (upT X.K mg W (notT t)) := up_tnot ha
theorem n_and1 {t : LT} (ha : PT X a (upT X.K mg W t)) : PW X (.BoolOp .And [a] pos) (upT X.K mg W t) := up_and1 ha
theorem n_or1 {t : LT} (ha : PT X a (upT X.K mg W t)) : PW X (.BoolOp .Or [a] pos) (upT X.K mg W t) := up_or1 ha
theorem n_and {rest : List Expr} {t u : LT} (ha : PT X a (upT X.K mg W t)) (hb : PW X (.BoolOp .And (b :: rest) pos) (upT X.K mg W u)) : PW X (.BoolOp .And (a :: b :: rest) pos) (upT X.K mg W (andT t u)) := up_and ha hb
theorem n_or {rest : List Expr} {t u : LT} (ha : PT X a (upT X.K mg W t)) (hb : PW X (.BoolOp .Or (b :: rest) pos) (upT X.K mg W u)) : PW X (.BoolOp .Or (a :: b :: rest) pos) (upT X.K mg W (orT t u)) := up_or ha hb
theorem n_iseq {tg l : Expr} {tl : LE} (hl : PE X l (upE X.K mg W tl)) : PI X tg l (upI X.K mg W (seqI tl)) := up_iseq hl
theorem n_gnil : PGs X [] (upGs X.K mg nilG) := up_gnil
theorem n_snil : PSs X [] (upS X.K mg W nilS) := up_snil
theorem n_scons {s : Stmt} {rest : List Stmt} {t u : LS} (h1 : PS X s (upS X.K mg W t)) (h2 : PSs X rest (upS X.K mg W u)) : PSs X (s :: rest) (upS X.K mg W (seqS t u)) := up_scons (t := t) (u := u) h1 h2
theorem n_pass : PS X (.Pass pos) (upS X.K mg W nilS) := up_pass
theorem n_break : PS X (.Break pos) (upS X.K mg W brkS) := up_break
theorem n_continue : PS X (.Continue pos) (upS X.K mg W cntS) := up_continue
theorem n_ret (he : PE X e (upE X.K mg W te)) : PS X (.Return (some e) pos) (upS X.K mg W (retS te)) := up_ret he
theorem n_retN : PS X (.Return none pos) (upS X.K mg W retNS) := up_retN
theorem n_if {a b : List Stmt} {tc : LT} {t u : LS} (hc : PT X c (upT X.K mg W tc)) (ha : PSs X a (upS X.K mg W t)) (hb : PSs X b (upS X.K mg W u)) : PS X (.If c a b pos) (upS X.K mg W (ifS tc t u)) := up_if hc ha hb
end
end Pd

/-! Pd: how readings reduce. -/
namespace Pd
open PySem L2
section
variable {d e : D} {ds es : List D} {i j : Int} {b c : Bool} {z u : Str}
theorem startD_cons {m : Str} {N : List Str} : startD (m :: N) (d :: ds) = some (.dat d) :: startD N ds := by
  unfold startD
  simp
theorem startD_nil {m : Str} {N : List Str} : startD (m :: N) [] = none :: startD N [] := by
  unfold startD
  simp [List.replicate_succ]
theorem seq_loc {st : DSto} {n : Nat} {f : Bool} {ds : List D} (h : st[n]? = some (f, ds)) : seqX st (.loc n) = some ds := by
  simp only [seqX, h, Option.map_some]
theorem lst_loc {st : DSto} {n : Nat} {f : Bool} {ds : List D} (h : st[n]? = some (f, ds)) : lstX st (.loc n) = some ds := by
  simp only [lstX, h, Option.map_some]
theorem own_loc {st : DSto} {n : Nat} {ds : List D} (h : st[n]? = some (true, ds)) : ownX st (.loc n) = some (n, ds) := by
  simp only [ownX, h]
theorem startD_end : startD [] [] = [] := rfl
theorem ok_int {m : Nat} : D.ok m (.int i) = true := by cases m <;> rfl
theorem ok_str {m : Nat} : D.ok m (.str z) = PyData.strOk z := by cases m <;> rfl
theorem ok_bl {m : Nat} : D.ok m (.bl b) = true := by cases m <;> rfl
theorem ok_non {m : Nat} : D.ok m .non = true := by cases m <;> rfl
theorem ok_tup {m : Nat} : D.ok (m + 1) (.tup ds) = D.oks m ds := rfl
theorem ok_lst {m : Nat} : D.ok (m + 1) (.lst ds) = D.oks m ds := rfl
theorem oks_nil {m : Nat} : D.oks m [] = true := by cases m <;> rfl
theorem oks_cons {m : Nat} : D.oks m (d :: ds) = (D.ok m d && D.oks m ds) := by cases m <;> rfl
theorem oks_ints {m : Nat} : ∀ ns : List Int, D.oks m (ns.map D.int) = true
  | [] => oks_nil
  | n :: ns => by rw [List.map_cons, oks_cons, ok_int, oks_ints ns]; rfl
theorem eqv_int : eqvD (.int i) (.int j) = (i == j) := by rfl
theorem eqv_bl : eqvD (.bl b) (.bl c) = (b == c) := by rfl
theorem eqv_str : eqvD (.str z) (.str u) = (z == u) := by rfl
theorem eqv_tup : eqvD (.tup ds) (.tup es) = eqvDs ds es := by rfl
theorem eqv_lst : eqvD (.lst ds) (.lst es) = eqvDs ds es := by rfl
theorem eqvs_ints : ∀ xs ys : List Int, eqvDs (xs.map D.int) (ys.map D.int) = decide (xs = ys)
  | [], [] => rfl
  | [], _ :: _ => rfl
  | _ :: _, [] => rfl
  | x :: xs, y :: ys => by
    show (eqvD (.int x) (.int y) && eqvDs (xs.map D.int) (ys.map D.int)) = _
    rw [eqv_int, eqvs_ints xs ys]
    by_cases h : x = y <;> by_cases h2 : xs = ys <;> simp [h, h2]
theorem atI_nat {α : Type} {xs : List α} {m : Nat} (h : m < xs.length) : atI xs (m : Int) = some xs[m] := by
  unfold atI ixN
  rw [if_pos (Int.natCast_nonneg m), if_pos (by omega)]
  show xs[(m : Int).toNat]? = _
  rw [Int.toNat_natCast, List.getElem?_eq_getElem h]
theorem atI_pos {α : Type} {xs : List α} {i : Int} (h0 : 0 ≤ i) (h : i < xs.length) : atI xs i = xs[i.toNat]? := by
  unfold atI ixN
  rw [if_pos h0, if_pos h]
  rfl
theorem atI_last {α : Type} {xs : List α} {x : α} : atI (xs ++ [x]) (-1) = some x := by
  unfold atI ixN
  rw [if_neg (by decide), if_pos (by simp; omega)]
  show (xs ++ [x])[(-1 + ((xs ++ [x]).length : Int)).toNat]? = _
  have e : (-1 + ((xs ++ [x]).length : Int)).toNat = xs.length := by simp; omega
  rw [e]
  simp
end
/-! ### loops -/
theorem forL_run {g : LG} {tb : LS} {De : EndsD} {gd : DSto → Prop} (I : List D → DEnv → DSto → Prop) (hnil : ∀ env st, I [] env st → gd st ∧ De.nx env st)
    (hcons : ∀ (F : List D → DEnv → DSto → Prop) d ds env st, I (d :: ds) env st → (∀ env' st', I ds env' st' → F ds env' st') → gd st ∧ g (.dat d) env st fun env' st' => tb { De with nx := F ds, ct := F ds, bk := De.nx } env' st') :
    ∀ {items : List D} {env : DEnv} {st : DSto}, I items env st → forL g tb De gd items env st
  | [], env, st, h => hnil env st h
  | d :: ds, env, st, h => hcons (forL g tb De gd) d ds env st h fun env' st' h' => forL_run I hnil hcons h'
/-- what a comprehension may collect -/
inductive Outs (R : D → Option D → Prop) : List D → List D → Prop
  | nil : Outs R [] []
  | put {d y : D} {ds ys : List D} : R d (some y) → Outs R ds ys → Outs R (d :: ds) (y :: ys)
  | skip {d : D} {ds ys : List D} : R d none → Outs R ds ys → Outs R (d :: ds) ys
theorem compL_run {tg : Tg} {tt : LT} {te : LE} {vs : List Nat} {env : DEnv} {st : DSto} {gd : DSto → Prop} {k : List D → Prop} (R : D → Option D → Prop) (hgd : gd st) :
    ∀ {items acc : List D}, acc.length + items.length ≤ sizeLine →
    (∀ d ∈ items, ∀ (C : Prop) (P : Option D → Prop), C → (∀ o, R d o → P o) → bindT tg d (envWipe env vs) fun env' => tt env' st (fun b s1 => s1 = st ∧
      IteB b (te env' st (fun x s2 => s2 = st ∧ C ∧ (match x with | .dat y => P (some y) | .loc _ => False)) (fun _ _ => False)) (P none)) (fun _ _ => False)) →
    (∀ ys, Outs R items ys → k (acc ++ ys)) → compL tg tt te vs env st gd k items acc
  | [], acc, hl, h, hk => by
    unfold compL
    refine ⟨hgd, ?_⟩
    have q := hk [] .nil
    rw [List.append_nil] at q
    exact q
  | d :: ds, acc, hl, h, hk => by
    have hl' : acc.length + (ds.length + 1) ≤ sizeLine := hl
    unfold compL
    refine ⟨hgd, ?_⟩
    refine h d List.mem_cons_self (acc.length < sizeLine) (fun o => match o with | some y => compL tg tt te vs env st gd k ds (acc ++ [y]) | none => compL tg tt te vs env st gd k ds acc) (by omega) fun o ho => ?_
    cases o with
    | some y =>
      refine compL_run R hgd (by rw [List.length_append, List.length_singleton]; omega) (fun d hd => h d (List.mem_cons_of_mem _ hd)) fun ys hy => ?_
      have q := hk (y :: ys) (.put ho hy)
      rw [List.append_assoc]
      exact q
    | none => exact compL_run R hgd (by omega) (fun d hd => h d (List.mem_cons_of_mem _ hd)) fun ys hy => hk ys (.skip ho hy)
/-- each item gives one thing -/
theorem Outs.map {f : D → D} : ∀ {xs ys : List D}, Outs (fun d o => o = some (f d)) xs ys → ys = xs.map f
  | _, _, .nil => rfl
  | _, _, .put h t => by cases h; rw [List.map_cons, ← Outs.map t]
  | _, _, .skip h t => by cases h
theorem Outs.filterMap {f : D → Option D} : ∀ {xs ys : List D}, Outs (fun d o => o = f d) xs ys → ys = xs.filterMap f
  | _, _, .nil => rfl
  | _, _, .put h t => by rw [List.filterMap_cons, ← h, ← Outs.filterMap t]
  | _, _, .skip h t => by rw [List.filterMap_cons, ← h, ← Outs.filterMap t]
def fInt (g : Int → D) : D → D
  | .int i => g i
  | d => d
theorem map_range {g : Int → D} {m : Nat} : (rangeD 0 (m : Int)).map (fInt g) = (List.range m).map fun i : Nat => g i := by
  unfold rangeD
  rw [List.map_map]
  simp [Function.comp_def, fInt]
theorem mem_range {d : D} {a b : Int} (h : d ∈ rangeD a b) : ∃ i : Int, d = .int i ∧ a ≤ i ∧ i < b := by
  obtain ⟨i, hi, rfl⟩ := List.mem_map.mp h
  have := List.mem_range.mp hi
  exact ⟨_, rfl, by omega, by omega⟩
theorem len_range {a b : Int} : (rangeD a b).length = (b - a).toNat := by simp [rangeD]
theorem range_cons {a b : Int} (h : a < b) : rangeD a b = .int a :: rangeD (a + 1) b := by
  unfold rangeD
  have e : (b - a).toNat = (b - (a + 1)).toNat + 1 := by omega
  rw [e, List.range_succ_eq_map, List.map_cons, List.map_map]
  simp only [Function.comp_def, Int.natCast_zero, Int.add_zero]
  congr 1
  refine List.map_congr_left fun i _ => ?_
  congr 1
  omega
theorem range_nil {a b : Int} (h : b ≤ a) : rangeD a b = [] := by
  unfold rangeD
  have e : (b - a).toNat = 0 := by omega
  rw [e]
  rfl
theorem cut_to {α : Type} {xs : List α} {i : Nat} : cutD xs none (some (i : Int)) = xs.take i := by
  unfold cutD
  rw [HT.sIx_none, HT.sIx_nat, List.drop_zero, Nat.sub_zero]
  rcases Nat.le_total i xs.length with h | h
  · rw [Nat.min_eq_left h]
  · rw [Nat.min_eq_right h, List.take_length, List.take_of_length_le h]
theorem cut_from {α : Type} {xs : List α} {i : Nat} : cutD xs (some (i : Int)) none = xs.drop i := by
  unfold cutD
  rw [HT.sIx_none, HT.sIx_nat]
  rcases Nat.le_total i xs.length with h | h
  · rw [Nat.min_eq_left h]
    exact List.take_of_length_le (by simp)
  · rw [Nat.min_eq_right h, List.drop_length, List.drop_of_length_le h]
    simp
theorem sIx_neg {n d : Nat} : HT.sIx n d (some (-1)) = n - 1 := by
  show (if (-1 : Int) < 0 then ((-1 : Int) + (n : Int)).toNat else min (-1 : Int).toNat n) = n - 1
  rw [if_pos (by decide)]
  omega
theorem cut_init {α : Type} {xs : List α} {x : α} : cutD (xs ++ [x]) none (some (-1)) = xs := by
  unfold cutD
  rw [HT.sIx_none, sIx_neg]
  simp
theorem cut_end {α : Type} {xs : List α} {x : α} : cutD (xs ++ [x]) (some (-1)) none = [x] := by
  unfold cutD
  rw [HT.sIx_none, sIx_neg]
  simp
theorem cut_map {xs : List Int} {a b : Option Int} : cutD (xs.map D.int) a b = (cutD xs a b).map D.int := by
  unfold cutD
  rw [List.map_take, List.map_drop, List.length_map]
theorem log2_small {n k : Nat} (hk : 64 ≤ k) (h : n < 2 ^ 64) : n.log2 < k := by
  by_cases z : n = 0
  · subst z
    have : Nat.log2 0 = 0 := by decide
    omega
  · exact Nat.lt_of_lt_of_le ((Nat.log2_lt z).mpr h) hk
theorem divOk_nat {a : Nat} (h1 : 1 ≤ a) (h2 : a < 2 ^ 64) : DivOk (a : Int) := ⟨by omega, by rw [Int.natAbs_natCast]; exact log2_small (by decide) h2⟩
theorem fdiv_nat (a b : Nat) : (a : Int).fdiv (b : Int) = ((a / b : Nat) : Int) := by
  rw [Int.fdiv_eq_ediv_of_nonneg _ (by omega), ← Int.natCast_ediv]
theorem fmod_nat (a b : Nat) : (a : Int).fmod (b : Int) = ((a % b : Nat) : Int) := by
  rw [Int.fmod_eq_emod_of_nonneg _ (by omega), ← Int.natCast_emod]
theorem seqS_cut {t u : LS} {De : EndsD} {env : DEnv} {st : DSto} (J : DEnv → DSto → Prop) (h1 : ∀ nx : DEnv → DSto → Prop, (∀ env st, J env st → nx env st) → t { De with nx := nx } env st) (h2 : ∀ env st, J env st → u De env st) : seqS t u De env st := h1 _ h2
theorem list_last {α : Type} {xs : List α} (h : xs ≠ []) : ∃ r x, xs = r ++ [x] := ⟨xs.dropLast, xs.getLast h, (List.dropLast_concat_getLast h).symm⟩
theorem log_small {i : Int} (h : i.natAbs < 2 ^ 64) : i.natAbs.log2 < 9000 := log2_small (by decide) h
theorem mulOk_small {i j : Int} (h : i.natAbs < 2 ^ 64) (h' : j.natAbs < 2 ^ 64) : MulOk i j := by
  have h1 : i.natAbs.log2 < 64 := log2_small (by decide) h
  have h2 : j.natAbs.log2 < 64 := log2_small (by decide) h'
  show i.natAbs.log2 + j.natAbs.log2 < 1000000
  omega
theorem divOk_small {j : Int} (h0 : j ≠ 0) (h : j.natAbs < 2 ^ 64) : DivOk j := ⟨h0, log_small h⟩
theorem outs_ints {P : Int → Prop} : ∀ {items ys : List D}, Outs (fun _ o => ∃ x : Int, o = some (.int x) ∧ P x) items ys → ∃ xs : List Int, ys = xs.map D.int ∧ xs.length = items.length ∧ ∀ x ∈ xs, P x
  | _, _, .nil => ⟨[], rfl, rfl, fun x h => by cases h⟩
  | _, _, .put ⟨x, e, p⟩ t => by
    cases e
    obtain ⟨xs, rfl, l, q⟩ := outs_ints t
    refine ⟨x :: xs, rfl, by simp [l], fun y hy => ?_⟩
    rcases List.mem_cons.mp hy with rfl | hy
    · exact p
    · exact q y hy
  | _, _, .skip ⟨x, e, _⟩ _ => by cases e
theorem outs_sub {P : Int → Prop} : ∀ {items ys : List D}, Outs (fun _ o => o = none ∨ ∃ x : Int, o = some (.int x) ∧ P x) items ys → ∃ xs : List Int, ys = xs.map D.int ∧ xs.length ≤ items.length ∧ ∀ x ∈ xs, P x
  | _, _, .nil => ⟨[], rfl, Nat.le_refl _, fun x h => by cases h⟩
  | _, _, .put (.inr ⟨x, e, p⟩) t => by
    cases e
    obtain ⟨xs, rfl, l, q⟩ := outs_sub t
    refine ⟨x :: xs, rfl, Nat.succ_le_succ l, fun y hy => ?_⟩
    rcases List.mem_cons.mp hy with rfl | hy
    · exact p
    · exact q y hy
  | _, _, .put (.inl e) _ => by cases e
  | _, _, .skip _ t => by
    obtain ⟨xs, h, l, q⟩ := outs_sub t
    exact ⟨xs, h, Nat.le_succ_of_le l, q⟩
end Pd

/-! Pd: draws from a deal. -/
namespace Pd
open PySem PySem.Spec PyProof.Rows L2
section
variable {ω : Wd} {H H' : Hp} {a q : Addr}
theorem deal_in (w : WOk ω H) (hm : (a, q) ∈ ω.gam) {p : Addr × Addr} (hp : p ∈ ω.gam) (ne : p ≠ (a, q)) : p.1 ≠ a ∧ p.1 ≠ q ∧ p.2 ≠ a ∧ p.2 ≠ q := by
  have nd := w.nd
  have gs : (ω.gam.map (·.1) ++ ω.gam.map (·.2)).Nodup := by
    refine nd.sublist ?_
    unfold Wd.busy Wd.mut Wd.gs
    exact (List.sublist_append_right _ _).trans (List.sublist_append_left _ _)
  obtain ⟨n1, n2, n3⟩ := List.nodup_append.mp gs
  have i1 : ∀ {l : List (Addr × Addr)} {x y : Addr × Addr}, (l.map (·.1)).Nodup → x ∈ l → y ∈ l → x.1 = y.1 → x = y := by
    intro l
    induction l with
    | nil => intro x y _ h; cases h
    | cons z r ih =>
      intro x y nd hx hy e
      rw [List.map_cons, List.nodup_cons] at nd
      rcases List.mem_cons.mp hx with rfl | hx2 <;> rcases List.mem_cons.mp hy with rfl | hy2
      · rfl
      · exact absurd (show x.1 ∈ List.map (·.1) r from List.mem_map.mpr ⟨y, hy2, e.symm⟩) nd.1
      · exact absurd (show y.1 ∈ List.map (·.1) r from List.mem_map.mpr ⟨x, hx2, e⟩) nd.1
      · exact ih nd.2 hx2 hy2 e
  have i2 : ∀ {l : List (Addr × Addr)} {x y : Addr × Addr}, (l.map (·.2)).Nodup → x ∈ l → y ∈ l → x.2 = y.2 → x = y := by
    intro l
    induction l with
    | nil => intro x y _ h; cases h
    | cons z r ih =>
      intro x y nd hx hy e
      rw [List.map_cons, List.nodup_cons] at nd
      rcases List.mem_cons.mp hx with rfl | hx2 <;> rcases List.mem_cons.mp hy with rfl | hy2
      · rfl
      · exact absurd (show x.2 ∈ List.map (·.2) r from List.mem_map.mpr ⟨y, hy2, e.symm⟩) nd.1
      · exact absurd (show y.2 ∈ List.map (·.2) r from List.mem_map.mpr ⟨x, hx2, e⟩) nd.1
      · exact ih nd.2 hx2 hy2 e
  refine ⟨fun e => ne (i1 n1 hp hm e), fun e => ?_, fun e => ?_, fun e => ne (i2 n2 hp hm e)⟩
  · exact n3 p.1 (List.mem_map.mpr ⟨p, hp, rfl⟩) q (List.mem_map.mpr ⟨_, hm, rfl⟩) e
  · exact n3 a (List.mem_map.mpr ⟨_, hm, rfl⟩) p.2 (List.mem_map.mpr ⟨p, hp, rfl⟩) e.symm
theorem deal_ne (w : WOk ω H) (hm : (a, q) ∈ ω.gam) : a ≠ q := fun e => by
  have gs : (ω.gam.map (·.1) ++ ω.gam.map (·.2)).Nodup := by
    refine w.nd.sublist ?_
    unfold Wd.busy Wd.mut Wd.gs
    exact (List.sublist_append_right _ _).trans (List.sublist_append_left _ _)
  exact (List.nodup_append.mp gs).2.2 a (List.mem_map.mpr ⟨_, hm, rfl⟩) q (List.mem_map.mpr ⟨_, hm, rfl⟩) e
/-- a deal has changed, all else stands -/
theorem deal_step (w : WOk ω H) (hm : (a, q) ∈ ω.gam) (hk : ∀ b, b ≠ a → b ≠ q → H' b = H b) (hd : DealOk H' (a, q)) : WOk ω H' ∧ Ext ω H ω H' := by
  have lst : ∀ b, (∃ xs, H b = some (.lst xs)) → ∃ xs, H' b = some (.lst xs) := fun b ⟨xs, h⟩ => by
    obtain ⟨m, cs, h1, h2, _⟩ := hd
    by_cases e1 : b = a
    · exact ⟨_, by rw [e1]; exact h1⟩
    · by_cases e2 : b = q
      · exact ⟨_, by rw [e2]; exact h2⟩
      · exact ⟨xs, by rw [hk b e1 e2]; exact h⟩
  refine ⟨⟨w.nd, w.nda, fun b hb => lst b (w.all b hb), w.sub, fun p hp => ?_, fun b hb => lst b (w.out b hb)⟩, ⟨⟨[], by simp⟩, ⟨[], by simp⟩, rfl, fun b o h n => ⟨?_, n⟩⟩⟩
  · by_cases e : p = (a, q)
    · rw [e]; exact hd
    · obtain ⟨m, cs, h1, h2, r⟩ := w.dls p hp
      obtain ⟨g1, g2, g3, g4⟩ := deal_in w hm hp e
      exact ⟨m, cs, by rw [hk _ g1 g2]; exact h1, by rw [hk _ g3 g4]; exact h2, r⟩
  · have mem : a ∈ ω.mut ∧ q ∈ ω.mut := ⟨List.mem_append_right _ (List.mem_append_left _ (List.mem_map.mpr ⟨_, hm, rfl⟩)), List.mem_append_right _ (List.mem_append_right _ (List.mem_map.mpr ⟨_, hm, rfl⟩))⟩
    rw [hk b (fun e => n (e ▸ mem.1)) (fun e => n (e ▸ mem.2))]
    exact h
end
/-- a number from a deal -/
def S_any : SpecD := fun ds Q _ => ∃ n : Int, ds = [.deal, .int n] ∧ 1 ≤ n ∧ n.natAbs.log2 < 9000 ∧ ∀ r, 0 ≤ r → r < n → Q (.int r)
theorem seq_cut {t u : TS} {D : Ends} {σ : L2.St} {H : Hp} (J : L2.St → Hp → Prop) (h1 : ∀ nx : L2.St → Hp → Prop, (∀ σ H, J σ H → nx σ H) → t { D with nx := nx } σ H) (h2 : ∀ σ H, J σ H → u D σ H) : tSeq t u D σ H := h1 _ h2
/-- the world of a draw: the cells and the mix may change -/
def AnyAt (H0 H : Hp) (a q : Addr) (m : Int) (cs : List Int) : Prop := H a = some (.lst [.ref q, .int m]) ∧ H q = some (.lst (cs.map V.int)) ∧ CellsOk cs ∧ (0 ≤ m ∧ m < 2147483647) ∧ ∀ b, b ≠ a → b ≠ q → H b = H0 b
section
variable {P : Program} {w : World} {K : PySem.W.Frag} {mg : Str → Option Value} {base : Heap}
theorem cells_last {cs : List Int} (h : cs ≠ []) : ∃ r c, cs = r ++ [c] := ⟨cs.dropLast, cs.getLast h, (List.dropLast_concat_getLast h).symm⟩
theorem cells_put {r : List Int} {c d : Int} (h : CellsOk (r ++ [c])) (h0 : 0 ≤ d) (h1 : d ≤ c) : CellsOk (r ++ [d]) := by
  refine ⟨by have := h.1; simp at this ⊢; exact this, fun x hx => ?_⟩
  rcases List.mem_append.mp hx with hx | hx
  · exact h.2 x (List.mem_append_left _ hx)
  · rw [List.mem_singleton] at hx
    subst hx
    have := h.2 c (List.mem_append_right _ (List.mem_singleton.mpr rfl))
    exact ⟨h0, by omega⟩
theorem cells_cut {r : List Int} {c : Int} (h : CellsOk (r ++ [c])) : CellsOk r := ⟨by have := h.1; simp at this; omega, fun x hx => h.2 x (List.mem_append_left _ hx)⟩
end
/-- a deal from the script -/
def S_deal : SpecD := fun ds Q _ => ∃ (ns : List Int) (salt : Nat), ds = [.scr ns, .int salt] ∧ ns.length ≤ 63 ∧ salt ≤ 200000 ∧ Q .deal
theorem reps_int {K : PySem.W.Frag} {mg : Str → Option Value} {ω : Wd} {H : Hp} : ∀ {xs : List V} {cs : List Int}, Reps K mg ω H xs (cs.map D.int) → xs = cs.map V.int
  | [], [], _ => rfl
  | x :: xs, c :: cs, .cons r t => by
    cases r
    rw [reps_int t]
    rfl
def dealS (te t2 : LE) : LS := fun De env st => te env st (fun x s1 => ∃ cs : List Int, lstX s1 x = some (cs.map D.int) ∧ CellsOk cs ∧ t2 env s1 (fun y s2 => ∃ m : Int, y = .dat (.int m) ∧ (0 ≤ m ∧ m < 2147483647) ∧ De.rt .deal) (fun ex s => De.ex ex env s)) (fun ex s => De.ex ex env s)
/-- return [cells[::-1], mix]: a new deal -/
theorem r_retDeal {X : Cx} {W : WX} {mg : Str → Option Value} {e e2 : Expr} {te t2 : LE} {k : Nat} {p1 p2 p3 p4 p5 pos : Pos} (he : PE X e (upE X.K mg W te)) (h2 : PE X e2 (upE X.K mg W t2))
    (hs : starEach [(.Subscript e (.Slice none none (some (.UnaryOp .USub (.Constant (.int 1) k p1) p2)) p3) p4 : Expr), e2] X.env = (false, eval (.Subscript e (.Slice none none (some (.UnaryOp .USub (.Constant (.int 1) k p1) p2)) p3) p4) X.env) :: starEach [e2] X.env := by rfl)
    (hs2 : starEach [e2] X.env = (false, eval e2 X.env) :: starEach [] X.env := by rfl) :
    PS X (.Return (some (.List [.Subscript e (.Slice none none (some (.UnaryOp .USub (.Constant (.int 1) k p1) p2)) p3) p4, e2] p5)) pos) (upS X.K mg W (dealS te t2)) := by
  refine (ps_ret (pe_lst (pa_cons (pe_revL he) (pa_cons h2 pa_nil hs2) hs))).imp fun D σ H ⟨ω, env, st, De, R, t, hE⟩ => ?_
  refine ⟨ω, env, st, _, _, R, t, fun x s1 ω1 H1 v e1 R1 r1 t1 => ?_, hE.upX σ env⟩
  obtain ⟨cs, hl, hc, t1⟩ := t1
  obtain ⟨a, xs, rfl, ha, rx⟩ := lstX_rep R1 r1 hl
  have ex := reps_int rx
  subst ex
  refine ⟨a, _, rfl, SqL.of ha, fun p hp => ?_⟩
  have sm := same_upd (o := HO.lst (cs.map V.int).reverse) hp
  have R2 := R1.same sm
  refine ⟨ω1, env, s1, _, _, R2, t1, fun y s2 ω2 H2 u e2 R3 r3 t3 => ?_, (hE.mono (e1.trans (.of_same sm))).upX σ env⟩
  obtain ⟨m, rfl, hm, t3⟩ := t3
  cases r3 with
  | dat r3 =>
    cases r3
    refine ⟨by show 2 ≤ sizeLine; decide, fun p' hp' => ?_⟩
    have nb : p ∉ ω1.busy := free_busy R1.w hp
    obtain ⟨k1, k2⟩ := e2.keep p _ upd_same (fun z => nb (mem_busy.mpr (.inl z)))
    have nb2 : p ∉ ω2.busy := e2.nb upd_same nb
    have nb3 : p' ∉ ω2.busy := free_busy R3.w hp'
    have ne : p ≠ p' := ne_of_none k1 hp'
    have sm2 := same_upd (o := HO.lst [V.ref p, V.int m]) hp'
    obtain ⟨ω3, hω⟩ : ∃ ω3 : Wd, ω3 = ⟨ω2.ads, ω2.liv, ω2.gam ++ [(p', p)], ω2.phi⟩ := ⟨_, rfl⟩
    have w3 : WOk ω3 (upd H2 p' (.lst [V.ref p, V.int m])) := by
      have w2 := R3.w.same sm2
      subst hω
      have b3 : ∀ {x : Addr}, x ∈ ω2.busy → x ≠ p ∧ x ≠ p' := fun hx => ⟨fun z => nb2 (z ▸ hx), fun z => nb3 (z ▸ hx)⟩
      refine ⟨?_, w2.nda, w2.all, w2.sub, fun q hq => ?_, w2.out⟩
      · have nd := R3.w.nd
        have pm : List.Perm (Wd.busy ⟨ω2.ads, ω2.liv, ω2.gam ++ [(p', p)], ω2.phi⟩) (p' :: p :: ω2.busy) := by
          unfold Wd.busy Wd.mut Wd.gs
          simp only [List.map_append, List.map_cons, List.map_nil]
          have : List.Perm (ω2.gam.map (·.1) ++ [p'] ++ (ω2.gam.map (·.2) ++ [p])) (p' :: p :: (ω2.gam.map (·.1) ++ ω2.gam.map (·.2))) := by
            have q1 : List.Perm (ω2.gam.map (·.1) ++ [p']) (p' :: ω2.gam.map (·.1)) := List.perm_append_comm
            have q2 : List.Perm (ω2.gam.map (·.2) ++ [p]) (p :: ω2.gam.map (·.2)) := List.perm_append_comm
            refine (q1.append q2).trans ?_
            rw [List.cons_append]
            refine List.Perm.cons _ ?_
            exact List.perm_middle
          have q3 : List.Perm (ω2.liv ++ (ω2.gam.map (·.1) ++ [p'] ++ (ω2.gam.map (·.2) ++ [p]))) (p' :: p :: (ω2.liv ++ (ω2.gam.map (·.1) ++ ω2.gam.map (·.2)))) := by
            refine (this.append_left _).trans ?_
            refine List.perm_middle.trans ?_
            exact List.Perm.cons _ List.perm_middle
          exact q3.append_right _
        refine pm.nodup_iff.mpr ?_
        rw [List.nodup_cons, List.nodup_cons]
        exact ⟨fun z => by
          rcases List.mem_cons.mp z with z | z
          · exact ne z.symm
          · exact nb3 z, nb2, nd⟩
      · rcases List.mem_append.mp hq with hq | hq
        · exact w2.dls q hq
        · rw [List.mem_singleton] at hq
          subst hq
          refine ⟨m, cs.reverse, upd_same, ?_, ⟨by rw [List.length_reverse]; exact hc.1, fun c hc' => hc.2 c (List.mem_reverse.mp hc')⟩, hm⟩
          show upd H2 p' _ p = _
          rw [upd_ne ne, k1, List.map_reverse]
    have x2 := (e1.trans (.of_same sm)).trans e2
    have x3 : Ext ω H ω3 (upd H2 p' (.lst [V.ref p, V.int m])) := by
      subst hω
      obtain ⟨l1, q1⟩ := x2.gam
      refine ⟨x2.ads, ⟨l1 ++ [(p', p)], by show ω2.gam ++ [(p', p)] = _; rw [q1, List.append_assoc]⟩, x2.phi, fun b o hb hn => ?_⟩
      obtain ⟨g1, g2⟩ := x2.keep b o hb hn
      obtain ⟨g3, _⟩ := e1.keep b o hb hn
      have n1 : b ≠ p := ne_of_none g3 hp
      have n2 : b ≠ p' := ne_of_none g1 hp'
      refine ⟨sm2 _ _ g1, fun z => ?_⟩
      unfold Wd.mut Wd.gs at z g2
      simp only [List.map_append, List.map_cons, List.map_nil, List.mem_append, List.mem_singleton] at z g2
      rcases z with z | (z | z) | (z | z)
      · exact g2 (.inl z)
      · exact g2 (.inr (.inl z))
      · exact n2 z
      · exact g2 (.inr (.inr z))
      · exact n1 z
    refine hE.rt .deal ω3 _ _ x3 w3 (.deal (q := p) ?_) t3
    subst hω
    exact List.mem_append_right _ (List.mem_singleton.mpr rfl)
end Pd

/-! Pd: what the laws' own common defs promise. -/
namespace Pd
open PySem L2
mutual
/-- replies that a law compares: bools, ints, texts, None, tuples of such -/
def good : D → Bool
  | .non => true
  | .bl _ => true
  | .int _ => true
  | .str z => PyData.strOk z
  | .tup ds => goods ds
  | _ => false
def goods : List D → Bool
  | [] => true
  | d :: ds => good d && goods ds
end
mutual
def sz : D → Nat
  | .tup ds => 1 + szs ds
  | _ => 1
def szs : List D → Nat
  | [] => 0
  | d :: ds => sz d + szs ds
end
/-- no tuple -/
def flatK : D → Bool
  | .non => true
  | .bl _ => true
  | .int _ => true
  | .str z => PyData.strOk z
  | _ => false
theorem sz_pos (d : D) : 1 ≤ sz d := by
  cases d <;> unfold sz <;> omega
theorem len_szs : ∀ ds : List D, ds.length ≤ szs ds
  | [] => by unfold szs; simp
  | d :: ds => by
    unfold szs
    have := sz_pos d
    have := len_szs ds
    simp
    omega
theorem goods_app : ∀ xs ys : List D, goods (xs ++ ys) = (goods xs && goods ys)
  | [], ys => by simp [goods]
  | x :: xs, ys => by
    show (good x && goods (xs ++ ys)) = ((good x && goods xs) && goods ys)
    rw [goods_app xs ys, Bool.and_assoc]
theorem szs_app : ∀ xs ys : List D, szs (xs ++ ys) = szs xs + szs ys
  | [], ys => by simp [szs]
  | x :: xs, ys => by
    show sz x + szs (xs ++ ys) = (sz x + szs xs) + szs ys
    rw [szs_app xs ys, Nat.add_assoc]
theorem goods_ints : ∀ ns : List Int, goods (ns.map D.int) = true
  | [] => by simp [goods]
  | n :: ns => by
    rw [List.map_cons]
    unfold goods
    rw [goods_ints ns]
    simp [good]
theorem szs_ints : ∀ ns : List Int, szs (ns.map D.int) = ns.length
  | [] => by simp [szs]
  | n :: ns => by
    rw [List.map_cons]
    unfold szs
    rw [szs_ints ns]
    simp [sz]
    omega
def pairD (d : D) : D := .tup [d, d]
theorem zipD_self : ∀ ds : List D, zipD ds ds = ds.map pairD
  | [] => rfl
  | d :: ds => by
    unfold zipD
    rw [zipD_self ds]
    rfl
def S__law_of : SpecD := fun ds Q _ => ∃ xs : List D, ds = [.deal, .lst xs] ∧ xs ≠ [] ∧ xs.length ≤ 1000 ∧ ∀ x ∈ xs, Q x
def S__law_is_kind : SpecD := fun ds Q _ => ∃ d, ds = [d, d] ∧ flatK d = true ∧ Q (.bl true)
def S__law_same : SpecD := fun ds Q _ => ∃ d, ds = [d, d] ∧ good d = true ∧ sz d ≤ 100000 ∧ Q (.bl true)
def S__law_all : SpecD := fun ds Q _ => ∃ ps : List D, ds = [.lst (ps.map pairD)] ∧ (∀ d ∈ ps, good d = true ∧ sz d ≤ 100000) ∧ ps.length ≤ 100000 ∧ Q (.bl true)
/-- a pair that a law notes -/
def Gd (d : D) : Prop := good d = true ∧ sz d ≤ 100000
/-- the list of pairs stands at n, of so many at most -/
def PsAt (st : DSto) (n B : Nat) : Prop := ∃ ps : List D, st[n]? = some (true, ps.map pairD) ∧ (∀ d ∈ ps, Gd d) ∧ ps.length ≤ B
theorem PsAt.mono {st : DSto} {n B C : Nat} (h : PsAt st n B) (l : B ≤ C) : PsAt st n C := let ⟨ps, a, b, c⟩ := h; ⟨ps, a, b, Nat.le_trans c l⟩
theorem PsAt.nil : PsAt [(true, [])] 0 0 := ⟨[], rfl, fun d h => (by cases h), Nat.le_refl _⟩
theorem PsAt.cat {st : DSto} {n B : Nat} (h : PsAt st n B) (qs : List D) {ds : List D} (e : ds = qs.map pairD) (hq : ∀ d ∈ qs, Gd d) (hB : B + qs.length ≤ 100000) {Q : QV} (k : ∀ n' st', PsAt st' n' (B + qs.length) → Q (.loc n') st') :
    ∃ as bs, lstX st (.loc n) = some as ∧ lstX st (.dat (.lst ds)) = some bs ∧ as.length + bs.length ≤ sizeLine ∧ newL true (as ++ bs) st Q := by
  obtain ⟨ps, h1, h2, h3⟩ := h
  subst e
  refine ⟨_, _, lst_loc h1, rfl, ?_, k _ _ ⟨ps ++ qs, ?_, fun d hd => ?_, by rw [List.length_append]; omega⟩⟩
  · rw [List.length_map, List.length_map]
    exact Nat.le_trans (by omega : _ ≤ 100000) (by decide)
  · rw [List.getElem?_append_right (Nat.le_refl _), Nat.sub_self, List.map_append]
    rfl
  · rcases List.mem_append.mp hd with hd | hd
    · exact h2 d hd
    · exact hq d hd
theorem PsAt.own {st : DSto} {n B : Nat} (h : PsAt st n B) : (ownX st (.loc n)).isSome = true := by
  obtain ⟨ps, h1, _⟩ := h
  rw [own_loc h1]
  rfl
theorem PsAt.app {st : DSto} {n B : Nat} (h : PsAt st n B) (q : D) (hq : Gd q) (hB : B + 1 ≤ 100000) :
    ∃ n' ds, ownX st (.loc n) = some (n', ds) ∧ ds.length < sizeLine ∧ PsAt (st.set n' (true, ds ++ [pairD q])) n (B + 1) := by
  obtain ⟨ps, h1, h2, h3⟩ := h
  have hn := (List.getElem?_eq_some_iff.mp h1).1
  refine ⟨_, _, own_loc h1, ?_, ⟨ps ++ [q], ?_, fun d hd => ?_, by rw [List.length_append]; simp; omega⟩⟩
  · rw [List.length_map]
    exact Nat.lt_of_lt_of_le (by omega : ps.length < 100000) (by decide)
  · rw [List.getElem?_set_self hn, List.map_append]
    rfl
  · rcases List.mem_append.mp hd with hd | hd
    · exact h2 d hd
    · rw [List.mem_singleton] at hd
      rw [hd]
      exact hq
/-- the law's last words: all pairs and some more -/
theorem PsAt.all {st : DSto} {n B : Nat} (h : PsAt st n B) (qs : List D) {ds : List D} (e : ds = qs.map pairD) (hq : ∀ d ∈ qs, Gd d) (hB : B + qs.length ≤ 100000) :
    ∃ as bs, lstX st (.loc n) = some as ∧ lstX st (.dat (.lst ds)) = some bs ∧ as.length + bs.length ≤ sizeLine ∧ ∃ ps : List D, as ++ bs = ps.map pairD ∧ (∀ d ∈ ps, good d = true ∧ sz d ≤ 100000) ∧ ps.length ≤ 100000 := by
  obtain ⟨ps, h1, h2, h3⟩ := h
  subst e
  refine ⟨_, _, lst_loc h1, rfl, ?_, ps ++ qs, by rw [List.map_append], fun d hd => ?_, by rw [List.length_append]; omega⟩
  · rw [List.length_map, List.length_map]
    exact Nat.le_trans (by omega : _ ≤ 100000) (by decide)
  · rcases List.mem_append.mp hd with hd | hd
    · exact h2 d hd
    · exact hq d hd
theorem gd_bl (b : Bool) : Gd (.bl b) := ⟨rfl, by show 1 ≤ 100000; decide⟩
theorem gd_int (i : Int) : Gd (.int i) := ⟨rfl, by show 1 ≤ 100000; decide⟩
end Pd

/-! Rows: what the package's rows and the law's own tell; one endless row has one plain form. -/
namespace Pd
open PySem L2
abbrev intsD (xs : List Int) : D := .tup (xs.map D.int)
abbrev rowD (h l : List Int) : D := .tup [intsD h, intsD l]
def rowAt (h l : List Int) (p : Nat) : Int := if p < h.length then h.getD p 0 else l.getD ((p - h.length) % l.length) 0
/-- no shorter loop tells the same -/
def Prim (l : List Int) : Prop := ∀ m, 0 < m → m < l.length → m ∣ l.length → ∃ i, i < l.length ∧ l.getD i 0 ≠ l.getD (i % m) 0
def Plain (h l : List Int) : Prop := l ≠ [] ∧ Prim l ∧ ∀ x, h.getLast? = some x → l.getLast? ≠ some x
theorem rowAt_head {h l : List Int} {p : Nat} (hp : p < h.length) : rowAt h l p = h.getD p 0 := if_pos hp
theorem rowAt_loop {h l : List Int} (p : Nat) : rowAt h l (h.length + p) = l.getD (p % l.length) 0 := by
  unfold rowAt
  rw [if_neg (by omega), Nat.add_sub_cancel_left]
theorem rowAt_per {h l : List Int} {n : Nat} (hn : h.length ≤ n) : rowAt h l (n + l.length) = rowAt h l n := by
  obtain ⟨p, rfl⟩ := Nat.exists_eq_add_of_le hn
  rw [Nat.add_assoc, rowAt_loop, rowAt_loop, Nat.add_mod_right]
theorem rowAt_perk {h l : List Int} {n : Nat} (hn : h.length ≤ n) : ∀ k : Nat, rowAt h l (n + k * l.length) = rowAt h l n
  | 0 => by simp
  | k + 1 => by
    rw [Nat.succ_mul, ← Nat.add_assoc, rowAt_per (by omega), rowAt_perk hn k]
def Per (s : Nat → Int) (N p : Nat) : Prop := ∀ n, N ≤ n → s (n + p) = s n
theorem Per.mul {s : Nat → Int} {N p : Nat} (h : Per s N p) : ∀ k : Nat, Per s N (k * p)
  | 0, n, _ => by simp
  | k + 1, n, hn => by
    rw [Nat.succ_mul, ← Nat.add_assoc, h _ (by omega), h.mul k n hn]
theorem Per.gcd {s : Nat → Int} {N : Nat} : ∀ p q : Nat, Per s N p → Per s N q → Per s N (Nat.gcd p q) := by
  intro p q
  induction p, q using Nat.gcd.induction with
  | H0 n => intro _ h; rw [Nat.gcd_zero_left]; exact h
  | H1 m n hm ih =>
    intro h1 h2
    rw [Nat.gcd_rec]
    refine ih (fun k hk => ?_) h1
    have e := h1.mul (n / m) (k + n % m) (by omega)
    have e2 : k + n % m + n / m * m = k + n := by
      have := Nat.mod_add_div' n m
      omega
    rw [e2] at e
    rw [← e, h2 k hk]
theorem Per.mono {s : Nat → Int} {N M p : Nat} (h : Per s N p) (l : N ≤ M) : Per s M p := fun n hn => h n (Nat.le_trans l hn)
theorem rowPer (h l : List Int) : Per (rowAt h l) h.length l.length := fun n hn => rowAt_per hn
theorem getD_last {l : List Int} {x : Int} (h : l.getD (l.length - 1) 0 = x) (hl : l ≠ []) : l.getLast? = some x := by
  have hp := List.length_pos_iff.mpr hl
  rw [List.getLast?_eq_getElem?, List.getElem?_eq_getElem (by omega)]
  rw [List.getD_eq_getElem?_getD, List.getElem?_eq_getElem (by omega)] at h
  rw [← h]
  rfl
theorem prim_per {h l : List Int} {s : Nat → Int} {N g : Nat} (hs : ∀ n, s n = rowAt h l n) (pr : Prim l) (hl : l ≠ []) (hN : h.length ≤ N) (hg : Per s N g) (g0 : 0 < g) (hd : g ∣ l.length) : g = l.length := by
  have hp := List.length_pos_iff.mpr hl
  have hle := Nat.le_of_dvd hp hd
  rcases Nat.lt_or_ge g l.length with lt | ge
  · obtain ⟨i, hi, hne⟩ := pr g g0 lt hd
    exfalso
    apply hne
    have at' : ∀ j, j < l.length → l.getD j 0 = s (h.length + j + N * l.length) := fun j hj => by
      rw [hs, rowAt_perk (by omega), rowAt_loop, Nat.mod_eq_of_lt hj]
    have hb : N ≤ N * l.length := Nat.le_mul_of_pos_right _ hp
    have hmod := Nat.mod_lt i g0
    rw [at' i hi, at' (i % g) (by omega)]
    have e := hg.mul (i / g) (h.length + i % g + N * l.length) (by omega)
    have e2 : h.length + i % g + N * l.length + i / g * g = h.length + i + N * l.length := by
      have := Nat.mod_add_div' i g
      omega
    rw [e2] at e
    exact e
  · omega
theorem head_le {h l h' l' : List Int} (hp' : Plain h' l') (hl : l.length = l'.length) (e : ∀ n, rowAt h l n = rowAt h' l' n) : h'.length ≤ h.length := by
  rcases Nat.lt_or_ge h.length h'.length with lt | ge
  · exfalso
    have hne : h' ≠ [] := fun z => by rw [z] at lt; cases lt
    have hl' := List.length_pos_iff.mpr hp'.1
    obtain ⟨x, hx⟩ : ∃ x, h'.getLast? = some x := ⟨_, List.getLast?_eq_some_getLast hne⟩
    refine hp'.2.2 x hx (getD_last ?_ hp'.1)
    have e1 : h'.getD (h'.length - 1) 0 = x := by
      rw [List.getLast?_eq_getElem?] at hx
      rw [List.getD_eq_getElem?_getD, hx]
      rfl
    have e2 : rowAt h' l' (h'.length - 1) = x := by rw [rowAt_head (by omega), e1]
    have e3 : rowAt h' l' (h'.length + (l'.length - 1)) = l'.getD (l'.length - 1) 0 := by rw [rowAt_loop, Nat.mod_eq_of_lt (by omega)]
    rw [← e3, ← e2, ← e, ← e]
    have e4 : h'.length + (l'.length - 1) = (h'.length - 1) + l.length := by omega
    rw [e4, rowAt_per (by omega)]
  · exact ge
/-- one endless row has one plain form -/
theorem plain_uniq {h l h' l' : List Int} (p : Plain h l) (p' : Plain h' l') (e : ∀ n, rowAt h l n = rowAt h' l' n) : h = h' ∧ l = l' := by
  have hp := List.length_pos_iff.mpr p.1
  have hp' := List.length_pos_iff.mpr p'.1
  have q1 : Per (rowAt h l) (max h.length h'.length) l.length := (rowPer h l).mono (Nat.le_max_left _ _)
  have q2 : Per (rowAt h l) (max h.length h'.length) l'.length := fun n hn => by
    rw [e, e]
    exact rowPer h' l' n (Nat.le_trans (Nat.le_max_right _ _) hn)
  have q := Per.gcd _ _ q1 q2
  have g0 := Nat.gcd_pos_of_pos_left l'.length hp
  have z1 := prim_per (fun _ => rfl) p.2.1 p.1 (Nat.le_max_left _ _) q g0 (Nat.gcd_dvd_left _ _)
  have z2 := prim_per (h := h') (l := l') (fun n => e n) p'.2.1 p'.1 (Nat.le_max_right _ _) q g0 (Nat.gcd_dvd_right _ _)
  have hl : l.length = l'.length := z1.symm.trans z2
  have hh : h.length = h'.length := Nat.le_antisymm (head_le p hl.symm fun n => (e n).symm) (head_le p' hl e)
  refine ⟨List.ext_getElem hh fun i h1 h2 => ?_, List.ext_getElem hl fun i h1 h2 => ?_⟩
  · have := e i
    rw [rowAt_head h1, rowAt_head h2] at this
    simpa [List.getD_eq_getElem?_getD, List.getElem?_eq_getElem, h1, h2] using this
  · have := e (h.length + i)
    rw [rowAt_loop, hh, rowAt_loop, Nat.mod_eq_of_lt h1, Nat.mod_eq_of_lt h2] at this
    simpa [List.getD_eq_getElem?_getD, List.getElem?_eq_getElem, h1, h2] using this
/-- the first forty digits tell all -/
theorem agree40 {h l h' l' : List Int} (a1 : h.length ≤ 5) (a2 : h'.length ≤ 5) (b1 : 1 ≤ l.length) (b2 : 1 ≤ l'.length) (c1 : l.length ≤ 5) (c2 : l'.length ≤ 5) (e : ∀ n, n < 40 → rowAt h l n = rowAt h' l' n) : ∀ n, rowAt h l n = rowAt h' l' n := by
  intro n
  rcases Nat.lt_or_ge n 40 with lt | ge
  · exact e n lt
  · have hP : l.length * l'.length ≤ 25 := Nat.mul_le_mul c1 c2
    have hP0 : 0 < l.length * l'.length := Nat.mul_pos b1 b2
    have q1 := ((rowPer h l).mono a1).mul l'.length
    have q2 := ((rowPer h' l').mono a2).mul l.length
    rw [Nat.mul_comm] at q1
    have r := Nat.mod_add_div' (n - 5) (l.length * l'.length)
    have rl := Nat.mod_lt (n - 5) hP0
    have en : n = 5 + (n - 5) % (l.length * l'.length) + (n - 5) / (l.length * l'.length) * (l.length * l'.length) := by omega
    rw [en, q1.mul _ _ (by omega), q2.mul _ _ (by omega)]
    exact e _ (by omega)
/-- a loop is so many times a part of it -/
def Rpt (l : List Int) (m : Nat) : Prop := ∀ i, i < l.length → l.getD i 0 = l.getD (i % m) 0
instance decRpt (l : List Int) (m : Nat) : Decidable (Rpt l m) := by
  unfold Rpt
  infer_instance
theorem flatRep {xs : List Int} (h0 : 0 < xs.length) : ∀ (k i : Nat), i < k * xs.length → (List.replicate k xs).flatten.getD i 0 = xs.getD (i % xs.length) 0
  | 0, i, h => by simp at h
  | k + 1, i, h => by
    rw [List.replicate_succ, List.flatten_cons]
    rcases Nat.lt_or_ge i xs.length with lt | ge
    · rw [Nat.mod_eq_of_lt lt]
      simp [List.getD_eq_getElem?_getD, List.getElem?_append_left lt]
    · have : (xs ++ (List.replicate k xs).flatten).getD i 0 = (List.replicate k xs).flatten.getD (i - xs.length) 0 := by
        simp [List.getD_eq_getElem?_getD, List.getElem?_append_right ge]
      rw [this, flatRep h0 k (i - xs.length) (by rw [Nat.succ_mul] at h; omega), Nat.mod_eq_sub_mod ge]
theorem flat_len {xs : List Int} (k : Nat) : (List.replicate k xs).flatten.length = k * xs.length := by
  simp
theorem rpt_iff {l : List Int} {m : Nat} (hm : 0 < m) (hle : m ≤ l.length) (hd : m ∣ l.length) : (List.replicate (l.length / m) (l.take m)).flatten = l ↔ Rpt l m := by
  have ht : (l.take m).length = m := by rw [List.length_take]; omega
  have hk : l.length / m * m = l.length := Nat.div_mul_cancel hd
  have tk : ∀ j, j < m → (l.take m).getD j 0 = l.getD j 0 := fun j hj => by
    simp [List.getD_eq_getElem?_getD, List.getElem?_take, hj]
  have at' : ∀ i, i < l.length → (List.replicate (l.length / m) (l.take m)).flatten.getD i 0 = l.getD (i % m) 0 := fun i hi => by
    rw [flatRep (by omega) _ i (by rw [ht, hk]; exact hi), ht, tk _ (Nat.mod_lt _ hm)]
  constructor
  · intro e i hi
    have := at' i hi
    rw [e] at this
    exact this
  · intro r
    refine List.ext_getElem (by rw [flat_len, ht, hk]) fun i h1 h2 => ?_
    have := (at' i h2).trans (r i h2).symm
    rw [List.getD_eq_getElem?_getD, List.getD_eq_getElem?_getD, List.getElem?_eq_getElem h1, List.getElem?_eq_getElem h2] at this
    exact this
/-- a loop's shortest form -/
def Short (l l' : List Int) : Prop := l' ≠ [] ∧ Prim l' ∧ l'.length ≤ l.length ∧ ∀ i, l'.getD (i % l'.length) 0 = l.getD (i % l.length) 0
theorem short_of {l : List Int} {m : Nat} (hm : 0 < m) (hle : m ≤ l.length) (hd : m ∣ l.length) (hr : Rpt l m) (hmin : ∀ k, 0 < k → k < m → k ∣ l.length → ¬ Rpt l k) : Short l (l.take m) := by
  have ht : (l.take m).length = m := by rw [List.length_take]; omega
  have tk : ∀ j, j < m → (l.take m).getD j 0 = l.getD j 0 := fun j hj => by
    simp [List.getD_eq_getElem?_getD, List.getElem?_take, hj]
  refine ⟨fun e => by rw [e] at ht; simp at ht; omega, fun k k0 k1 kd => ?_, by omega, fun i => ?_⟩
  · rw [ht] at k1 kd
    have := hmin k k0 k1 (Nat.dvd_trans kd hd)
    apply Classical.byContradiction
    intro c
    apply this
    intro i hi
    have all : ∀ j, j < m → l.getD j 0 = l.getD (j % k) 0 := fun j hj => by
      apply Classical.byContradiction
      intro z
      refine c ⟨j, by rw [ht]; exact hj, ?_⟩
      rw [tk j hj, tk (j % k) (by have := Nat.mod_lt j k0; omega)]
      exact z
    rw [hr i hi, all _ (Nat.mod_lt _ hm), Nat.mod_mod_of_dvd _ kd]
  · rw [ht, tk _ (Nat.mod_lt _ hm)]
    have hp : 0 < l.length := by omega
    rw [hr (i % l.length) (Nat.mod_lt _ hp), Nat.mod_mod_of_dvd _ hd]
theorem short_row {h l l' : List Int} (s : Short l l') (n : Nat) : rowAt h l' n = rowAt h l n := by
  unfold rowAt
  split
  · rfl
  · exact s.2.2.2 _
theorem row0 {l : List Int} (n : Nat) : rowAt [] l n = l.getD (n % l.length) 0 := by
  unfold rowAt
  rw [if_neg (by simp)]
  simp
theorem rot {l0 : List Int} {x : Int} (n : Nat) : rowAt [] (l0 ++ [x]) n = rowAt [] (x :: l0) (n + 1) := by
  rw [row0, row0]
  have hL : (l0 ++ [x]).length = l0.length + 1 := by simp
  have hL2 : (x :: l0).length = l0.length + 1 := by simp
  rw [hL, hL2]
  have hm : n % (l0.length + 1) < l0.length + 1 := Nat.mod_lt n (Nat.succ_pos l0.length)
  have e1 : (n + 1) % (l0.length + 1) = if n % (l0.length + 1) < l0.length then n % (l0.length + 1) + 1 else 0 := by
    split
    · rename_i h
      rw [Nat.add_mod, Nat.mod_eq_of_lt (by omega : 1 < l0.length + 1), Nat.mod_eq_of_lt (by omega)]
    · rename_i h
      have : n % (l0.length + 1) = l0.length := by omega
      have e := Nat.mod_add_div' n (l0.length + 1)
      rw [this] at e
      have : n + 1 = (n / (l0.length + 1) + 1) * (l0.length + 1) := by rw [Nat.succ_mul]; omega
      rw [this, Nat.mul_mod_left]
  rw [e1]
  split
  · rename_i h
    simp [List.getD_eq_getElem?_getD, List.getElem?_append_left h]
  · rename_i h
    have : n % (l0.length + 1) = l0.length := by omega
    rw [this]
    simp [List.getD_eq_getElem?_getD]
/-- a digit goes from the loop into the head -/
theorem turn_row {h0 l0 : List Int} {x : Int} (n : Nat) : rowAt (h0 ++ [x]) (l0 ++ [x]) n = rowAt h0 (x :: l0) n := by
  rcases Nat.lt_trichotomy n h0.length with lt | e | gt
  · rw [rowAt_head (by simp; omega), rowAt_head lt]
    simp [List.getD_eq_getElem?_getD, List.getElem?_append_left lt]
  · subst e
    have e2 : rowAt h0 (x :: l0) (h0.length + 0) = _ := rowAt_loop 0
    rw [rowAt_head (by simp)]
    rw [Nat.add_zero] at e2
    rw [e2]
    simp [List.getD_eq_getElem?_getD]
  · obtain ⟨k, rfl⟩ := Nat.exists_eq_add_of_lt gt
    have e1 : rowAt (h0 ++ [x]) (l0 ++ [x]) ((h0 ++ [x]).length + k) = _ := rowAt_loop k
    have e2 : rowAt h0 (x :: l0) (h0.length + (k + 1)) = _ := rowAt_loop (k + 1)
    rw [show h0.length + k + 1 = (h0 ++ [x]).length + k by simp; omega, e1, ← row0, rot, row0, ← e2]
    rw [show (h0 ++ [x]).length + k = h0.length + (k + 1) by simp; omega]
theorem rpt_per {l : List Int} {m : Nat} (hl : l ≠ []) (hm : 0 < m) (hd : m ∣ l.length) : Rpt l m ↔ Per (rowAt [] l) 0 m := by
  have hp := List.length_pos_iff.mpr hl
  constructor
  · intro r n _
    rw [row0, row0, r _ (Nat.mod_lt _ hp), r _ (Nat.mod_lt n hp), Nat.mod_mod_of_dvd _ hd, Nat.mod_mod_of_dvd _ hd, Nat.add_mod_right]
  · intro p i hi
    have e := p.mul (i / m) (i % m) (Nat.zero_le _)
    rw [Nat.mod_add_div'] at e
    have hle := Nat.le_of_dvd hp hd
    have := Nat.mod_lt i hm
    rw [row0, row0, Nat.mod_eq_of_lt hi, Nat.mod_eq_of_lt (by omega)] at e
    exact e
theorem prim_iff {l : List Int} (hl : l ≠ []) : Prim l ↔ ∀ m, 0 < m → m < l.length → m ∣ l.length → ¬ Rpt l m := by
  constructor
  · intro p m h1 h2 h3 r
    obtain ⟨i, hi, hne⟩ := p m h1 h2 h3
    exact hne (r i hi)
  · intro p m h1 h2 h3
    apply Classical.byContradiction
    intro c
    refine p m h1 h2 h3 fun i hi => ?_
    apply Classical.byContradiction
    intro z
    exact c ⟨i, hi, z⟩
theorem prim_rot {l0 : List Int} {x : Int} (p : Prim (l0 ++ [x])) : Prim (x :: l0) := by
  rw [prim_iff (by simp)] at p ⊢
  intro m h1 h2 h3 r
  have hL : (l0 ++ [x]).length = (x :: l0).length := by simp
  refine p m h1 (by rw [hL]; exact h2) (by rw [hL]; exact h3) ?_
  rw [rpt_per (by simp) h1 (by rw [hL]; exact h3)]
  rw [rpt_per (by simp) h1 h3] at r
  intro n hn
  rw [rot, rot, show n + m + 1 = n + 1 + m by omega, r _ (by omega)]
theorem row_drop {h l : List Int} {m : Nat} (hm : m ≤ h.length) (n : Nat) : rowAt (h.drop m) l n = rowAt h l (n + m) := by
  unfold rowAt
  rw [List.length_drop]
  by_cases c : n < h.length - m
  · rw [if_pos c, if_pos (by omega)]
    simp [List.getD_eq_getElem?_getD, Nat.add_comm]
  · rw [if_neg c, if_neg (by omega), show n + m - h.length = n - (h.length - m) by omega]
theorem row_app {w h l : List Int} (n : Nat) : rowAt (w ++ h) l n = if n < w.length then w.getD n 0 else rowAt h l (n - w.length) := by
  unfold rowAt
  rw [List.length_append]
  by_cases c : n < w.length
  · rw [if_pos (by omega), if_pos c]
    simp [List.getD_eq_getElem?_getD, List.getElem?_append_left c]
  · rw [if_neg c]
    by_cases d : n < w.length + h.length
    · rw [if_pos d, if_pos (by omega)]
      simp [List.getD_eq_getElem?_getD, List.getElem?_append_right (Nat.le_of_not_lt c)]
    · rw [if_neg d, if_neg (by omega), show n - (w.length + h.length) = n - w.length - h.length by omega]
theorem row_turns {l : List Int} : ∀ {m : Nat}, m ≤ l.length → ∀ n, rowAt [] (l.drop m ++ l.take m) n = rowAt [] l (n + m)
  | 0, _, n => by simp
  | m + 1, hm, n => by
    have hx : m < l.length := by omega
    have e1 : l.drop m = l[m] :: l.drop (m + 1) := List.drop_eq_getElem_cons hx
    have e2 : l.take (m + 1) = l.take m ++ [l[m]] := by rw [List.take_succ_eq_append_getElem hx]
    have ih := row_turns (l := l) (m := m) (by omega) (n + 1)
    rw [e1, List.cons_append] at ih
    rw [e2, ← List.append_assoc, rot, ih, show n + 1 + m = n + (m + 1) by omega]
theorem row_times {h l : List Int} {k : Nat} (hl : l ≠ []) (hk : 0 < k) (n : Nat) : rowAt h (List.replicate k l).flatten n = rowAt h l n := by
  have hp := List.length_pos_iff.mpr hl
  unfold rowAt
  split
  · rfl
  · rw [flatRep hp k _ (by rw [flat_len]; exact Nat.mod_lt _ (Nat.mul_pos hk hp)), flat_len, Nat.mod_mod_of_dvd _ (Nat.dvd_mul_left _ _)]
/-! ### specs -/
def S_thing_at : SpecD := fun ds Q _ => ∃ (h l : List Int) (p : Nat), ds = [rowD h l, .int p] ∧ l ≠ [] ∧ Q (.int (rowAt h l p))
def S_beginning : SpecD := fun ds Q _ => ∃ (h l : List Int) (m : Nat), ds = [rowD h l, .int m] ∧ l ≠ [] ∧ m ≤ 100000 ∧ Q (intsD ((List.range m).map (rowAt h l)))
def S_shortest_loop : SpecD := fun ds Q _ => ∃ l : List Int, ds = [intsD l] ∧ l ≠ [] ∧ l.length ≤ 1000 ∧ ∀ l', Short l l' → Q (intsD l')
def S_plain_row : SpecD := fun ds Q _ => ∃ h l : List Int, ds = [rowD h l] ∧ l ≠ [] ∧ l.length ≤ 1000 ∧ ∀ h' l', Plain h' l' → (∀ n, rowAt h' l' n = rowAt h l n) → h'.length ≤ h.length → l'.length ≤ l.length → Q (rowD h' l')
def S_same_row : SpecD := fun ds Q _ => ∃ h l h' l' : List Int, ds = [rowD h l, rowD h' l'] ∧ l ≠ [] ∧ l' ≠ [] ∧ l.length ≤ 1000 ∧ l'.length ≤ 1000 ∧ ∀ b : Bool, (b = true ↔ ∀ n, rowAt h l n = rowAt h' l' n) → Q (.bl b)
def S_later : SpecD := fun ds Q _ => ∃ (h l : List Int) (m : Nat), ds = [rowD h l, .int m] ∧ l ≠ [] ∧ l.length ≤ 1000 ∧ ∀ h' l', Plain h' l' → (∀ n, rowAt h' l' n = rowAt h l (n + m)) → h'.length ≤ h.length → l'.length ≤ l.length → Q (rowD h' l')
def S_put_ahead : SpecD := fun ds Q _ => ∃ w h l : List Int, ds = [intsD w, rowD h l] ∧ l ≠ [] ∧ l.length ≤ 1000 ∧ w.length + h.length ≤ 100000 ∧ ∀ h' l', Plain h' l' → (∀ n, rowAt h' l' n = rowAt (w ++ h) l n) → h'.length ≤ w.length + h.length → l'.length ≤ l.length → Q (rowD h' l')
def S__law_scale : SpecD := fun ds Q _ => ds = [.deal] ∧ ∀ b m : Nat, 2 ≤ b → b ≤ 10 → 1 ≤ m → m < b → Q (.tup [.int b, .int m])
def S__law_digit : SpecD := fun ds Q _ => ∃ m : Nat, ds = [.deal, .int m] ∧ m ≤ 1000 ∧ ∀ d : Int, -m ≤ d → d ≤ m → Q (.int d)
def S__law_digits : SpecD := fun ds Q _ => ∃ m k : Nat, ds = [.deal, .int m, .int k] ∧ m ≤ 1000 ∧ k ≤ 1000 ∧ ∀ xs : List Int, xs.length = k → (∀ x ∈ xs, -(m : Int) ≤ x ∧ x ≤ m) → Q (intsD xs)
def S__law_row : SpecD := fun ds Q _ => ∃ m a b : Nat, ds = [.deal, .int m, .int a, .int b] ∧ m ≤ 1000 ∧ a ≤ 900 ∧ 1 ≤ b ∧ b ≤ 900 ∧ ∀ h l : List Int, h.length ≤ a → 1 ≤ l.length → l.length ≤ b → (∀ x ∈ h ++ l, -(m : Int) ≤ x ∧ x ≤ m) → Q (rowD h l)
def S__law_is_pair : SpecD := fun ds Q _ => ∃ a b : D, ds = [.tup [a, b]] ∧ Q (.bl true)
def S__law_told_otherwise : SpecD := fun ds Q _ => ∃ h l : List Int, ds = [.deal, rowD h l] ∧ l ≠ [] ∧ l.length ≤ 12 ∧ h.length ≤ 100 ∧ ∀ h' l', l' ≠ [] → l'.length ≤ 200 → h'.length ≤ 200 → (∀ n, rowAt h' l' n = rowAt h l n) → Q (rowD h' l')
def S_law : SpecD := fun ds Q _ => ∃ ns : List Int, ds = [.scr ns] ∧ ns.length ≤ 63 ∧ Q (.bl true)
theorem atI_ints {xs : List Int} {i : Int} {p : Nat} (e : i = p) (h : p < xs.length) : atI (xs.map D.int) i = some (.int (xs.getD p 0)) := by
  subst e
  rw [atI_nat (by simpa using h)]
  simp [List.getD_eq_getElem?_getD, List.getElem?_eq_getElem h]
theorem ints_ok (m : Nat) (xs : List Int) : D.ok (m + 1) (intsD xs) = true := by rw [ok_tup]; exact oks_ints xs
theorem row_ok (m : Nat) (h l : List Int) : D.ok (m + 2) (rowD h l) = true := by
  rw [ok_tup, oks_cons, oks_cons, ints_ok, ints_ok, oks_nil]
  rfl
theorem ints_eqv (a b : List Int) : eqvD (intsD a) (intsD b) = decide (a = b) := by rw [eqv_tup, eqvs_ints]
theorem row_eqv (h l h' l' : List Int) : eqvD (rowD h l) (rowD h' l') = decide (h = h' ∧ l = l') := by
  show (eqvD (intsD h) (intsD h') && (eqvD (intsD l) (intsD l') && true)) = _
  rw [ints_eqv, ints_eqv]
  by_cases a : h = h' <;> by_cases b : l = l' <;> simp [a, b]
theorem rep_map (k : Nat) (l : List Int) : (List.replicate k (l.map D.int)).flatten = ((List.replicate k l).flatten).map D.int := by
  induction k with
  | zero => rfl
  | succ k ih => rw [List.replicate_succ, List.replicate_succ, List.flatten_cons, List.flatten_cons, List.map_append, ih]
theorem gd_ints {xs : List Int} (h : xs.length ≤ 40000) : Gd (intsD xs) := ⟨goods_ints xs, by show 1 + szs _ ≤ _; rw [szs_ints]; omega⟩
theorem gd_row {h l : List Int} (a : h.length ≤ 40000) (b : l.length ≤ 40000) : Gd (rowD h l) := by
  refine ⟨?_, ?_⟩
  · show (goods (h.map D.int) && (goods (l.map D.int) && true)) = true
    rw [goods_ints, goods_ints]
    rfl
  · show 1 + ((1 + szs (h.map D.int)) + ((1 + szs (l.map D.int)) + 0)) ≤ _
    rw [szs_ints, szs_ints]
    omega
theorem gd_mem2 {a b : D} (x : Gd a) (y : Gd b) : ∀ d ∈ [a, b], Gd d := fun d hd => by
  rcases List.mem_cons.mp hd with rfl | hd
  · exact x
  · rw [List.mem_singleton] at hd
    rw [hd]
    exact y
theorem gd_mem3 {a b c : D} (x : Gd a) (y : Gd b) (z : Gd c) : ∀ d ∈ [a, b, c], Gd d := fun d hd => by
  rcases List.mem_cons.mp hd with rfl | hd
  · exact x
  · exact gd_mem2 y z d hd
theorem many_iff {h l h' l' : List Int} (a1 : h.length ≤ 5) (a2 : h'.length ≤ 5) (b1 : l ≠ []) (b2 : l' ≠ []) (c1 : l.length ≤ 5) (c2 : l'.length ≤ 5) :
    eqvD (intsD ((List.range 40).map (rowAt h l))) (intsD ((List.range 40).map (rowAt h' l'))) = true ↔ ∀ n, rowAt h l n = rowAt h' l' n := by
  rw [ints_eqv, decide_eq_true_iff]
  constructor
  · intro e
    refine agree40 a1 a2 (List.length_pos_iff.mpr b1) (List.length_pos_iff.mpr b2) c1 c2 fun n hn => ?_
    exact (List.map_inj_left.mp e) n (List.mem_range.mpr hn)
  · intro e
    exact List.map_congr_left fun n _ => e n
abbrev envL (ns : List Int) (n : Nat) (a3 a4 a5 a6 a7 a8 a9 a10 a11 a12 a13 a14 a15 : Option Va) : DEnv := [some (.dat (.scr ns)), some (.dat .deal), some (.loc n), a3, a4, a5, a6, a7, a8, a9, a10, a11, a12, a13, a14, a15]
theorem pl1 : Plain [] [0, 1] := by
  refine ⟨by decide, fun m h1 h2 _ => ?_, fun x h => by cases h⟩
  have h2 : m < 2 := h2
  have : m = 1 := by omega
  subst this
  exact ⟨1, by decide, by decide⟩
theorem pl2 : Plain [1] [0] := by
  refine ⟨by decide, fun m h1 h2 _ => ?_, fun x h e => ?_⟩
  · have h2 : m < 1 := h2
    omega
  · have h : some (1 : Int) = some x := h
    have e : some (0 : Int) = some x := e
    rw [← h] at e
    cases e
theorem rw1 (n : Nat) : rowAt [0, 1] [0, 1] n = rowAt [] [0, 1] n := by
  have a := turn_row (h0 := [0]) (l0 := [0]) (x := 1) n
  have b := turn_row (h0 := []) (l0 := [1]) (x := 0) n
  exact a.trans b
theorem rw2 (n : Nat) : rowAt [1] [0, 0] n = rowAt [1] [0] n := row_times (h := [1]) (l := [0]) (k := 2) (by decide) (by decide) n
theorem rw3 (n : Nat) : rowAt [0] [1, 0, 1, 0] n = rowAt [] [0, 1] n := by
  have a := turn_row (h0 := []) (l0 := [1, 0, 1]) (x := 0) n
  exact a.trans (row_times (h := []) (l := [0, 1]) (k := 2) (by decide) (by decide) n)
theorem rw4 (n : Nat) : rowAt [] [1] n = rowAt [1, 1] [1, 1] n := by
  have a := turn_row (h0 := [1]) (l0 := [1]) (x := 1) n
  have b := turn_row (h0 := []) (l0 := [1]) (x := 1) n
  exact ((a.trans b).trans (row_times (h := []) (l := [1]) (k := 2) (by decide) (by decide) n)).symm
end Pd

/-! Pd: the top of a law. -/
namespace Pd
open PySem PySem.Spec PyProof.Rows L2
def spTop (K : PySem.W.Frag) : Sp := fun vs H Q E => ∃ (a : Addr) (ns : List Int), vs = [.ref a] ∧ ns.length ≤ 63 ∧ Only H ∧ SqL K H a (ns.map V.int) ∧ ∀ H', Q (.bl true) H'
theorem top_ok {P : Program} {w : World} {K : PySem.W.Frag} {mg : Str → Option Value} {base : Heap} {k : Nat} {f : Addr} {fd : FuncData} {x : Str} {S : SpecD} (hS : ∀ (ns : List Int) (Q : D → Prop) (E : Exn → Prop), ns.length ≤ 63 → Q (.bl true) → S [.scr ns] Q E)
    (F : FnOk P w K mg base (L2.CX P w) k f fd [x] (liftSp K mg 1 S)) : FnOk P w K mg base (L2.CX P w) k f fd [x] (spTop K) :=
  F.imp fun vs H Q E ⟨a, ns, e, hl, ho, hs, hq⟩ => by
    subst e
    refine ⟨rfl, ⟨[], [], [], []⟩, [.scr ns], fun d => d = .bl true, fun _ => False, rfl, rfl, ⟨List.nodup_nil, List.nodup_nil, (fun a h => by cases h), (fun a h => by cases h), (fun a h => by cases h), (fun a h => by cases h)⟩, .cons (.scr ?_) .nil, hS ns _ _ hl rfl, fun d ω' H' v _ _ _ _ r e => ?_, fun _ _ _ _ _ _ _ _ _ _ h => h.elim⟩
    · rcases hs with (h | h) | h
      · rcases ho a with z | ⟨o, xs, z⟩
        · rw [z] at h
          cases h
        · rw [z] at h
          cases h
      · exact .inl h
      · exact .inr fun H' => .inr h
    · subst e
      cases r
      exact hq H'
theorem cal_mk {P : Program} {w : World} {K : PySem.W.Frag} {mg : Str → Option Value} {base : Heap} {k : Nat} {x : Str} {ps : List Str} {st : Stmt} {S : SpecD} {f : Addr} {fd : FuncData} (F : Fun K x x st f fd) (hF : FnOk P w K mg base (L2.CX P w) k f fd ps (liftSp K mg ps.length S)) (hm : mg x = some (.ref f)) (hb : Binds K fd ps []) :
    CalD P w K mg base k x ps st S := ⟨⟨f, fd, F, hF, hm, hb⟩⟩
theorem noCX {P : Program} {w : World} {H : Hp} {s : Shared} {e : Value} {s' : Shared} (h : L2.CX P w [] H s (fun _ _ _ => False) e s') : False := by
  obtain ⟨_, _, _, _, _, _, _, _, _, _, _, _, h⟩ := h
  exact h
end Pd

namespace Pd
open PySem PySem.Spec PyProof.Rows L2
def top (i : Nat) : Stmt := PySem.Challenge.pw_loopstell_k05_whole_one_endless_row_in_m.main.body.getD i (.Pass ⟨0, 0, 0, 0⟩)
theorem sc_thing_at : FnScope ["looped", "place", "head", "loop"] ["looped", "place"] (defScope (top 1)) := ⟨rfl, rfl, rfl, by decide +kernel, rfl, by decide +kernel, by decide +kernel⟩
theorem ok_thing_at {P : Program} {w : World} {K : PySem.W.Frag} {mg : Str → Option Value} {base : Heap} {f : Addr} {fd : FuncData} (F : Fun K "thing_at" "thing_at" (top 1) f fd) (b_len : mg "len" = none) :
    FnOk P w K mg base (L2.CX P w) 1 f fd ["looped", "place"] (liftSp K mg 2 S_thing_at) := by
  refine ok_defG (k := 0) (N := ["looped", "place", "head", "loop"]) F sc_thing_at fun _ _ cdv A outer s H E _ _ g hp => ?_
  refine' ⟨_, ?walk, ?rest⟩
  case walk =>
    refine' n_scons (r_asg (r_var 0) (r_gseq g 2 (r_gcons (r_gn g 2) (r_gcons (r_gn g 3) n_gnil)))) ?r1
    case r1 =>
     refine' n_scons (n_ret (n_ifx (r_tcmp g .Lt (r_var 1) (r_len g b_len (r_cons (r_var 2) n_nil))) (r_ix (r_var 2) (r_var 1)) (r_ix (r_var 3) (n_bin .Mod (n_bin .Sub (r_var 1) (r_len g b_len (r_cons (r_var 2) n_nil))) (r_len g b_len (r_cons (r_var 3) n_nil)))))) ?r2
     case r2 =>
      exact n_snil
  case rest =>
    rintro ds Q E' ⟨h, l, p, rfl, hl, hq⟩ _
    have hpos : 0 < l.length := List.length_pos_iff.mpr hl
    refine ⟨_, rfl, rfl, ?_⟩
    refine ⟨_, rfl, fun hlt => ?_, fun hlt => ?_⟩
    · have hlt : p < h.length := by simpa using hlt
      refine ⟨_, rfl, _, atI_ints rfl hlt, ?_⟩
      rw [← rowAt_head hlt]
      exact hq
    · have hge : h.length ≤ p := by simpa using hlt
      have e : ((p : Int) - ((h.map D.int).length : Int)).fmod ((l.map D.int).length : Int) = (((p - h.length) % l.length : Nat) : Int) := by
        rw [List.length_map, List.length_map, Int.fmod_eq_emod_of_nonneg _ (by omega), show (p : Int) - (h.length : Int) = ((p - h.length : Nat) : Int) by omega, ← Int.natCast_emod]
      refine ⟨_, rfl, _, rfl, by show ((l.map D.int).length : Int) ≠ 0; rw [List.length_map]; omega, _, rfl, _, atI_ints e (Nat.mod_lt _ hpos), ?_⟩
      have e2 : rowAt h l p = l.getD ((p - h.length) % l.length) 0 := if_neg (by omega)
      rw [← e2]
      exact hq

theorem sc_digit_at : FnScope ["row", "place"] ["row", "place"] (defScope (top 2)) := ⟨rfl, rfl, rfl, by decide +kernel, rfl, by decide +kernel, by decide +kernel⟩
theorem ok_digit_at {P : Program} {w : World} {K : PySem.W.Frag} {mg : Str → Option Value} {base : Heap} {f : Addr} {fd : FuncData} (F : Fun K "digit_at" "digit_at" (top 2) f fd) (C_thing_at : CalD P w K mg base 1 "thing_at" ["looped", "place"] (top 1) S_thing_at) :
    FnOk P w K mg base (L2.CX P w) 2 f fd ["row", "place"] (liftSp K mg 2 S_thing_at) := by
  refine ok_defG (k := 1) (N := ["row", "place"]) F sc_digit_at fun _ _ cdv A outer s H E _ _ g hp => ?_
  refine' ⟨_, ?walk, ?rest⟩
  case walk =>
    refine' n_scons (n_ret (r_call g C_thing_at (r_cons (r_var 0) (r_cons (r_var 1) n_nil)))) ?r1
    case r1 =>
     exact n_snil
  case rest =>
    rintro ds Q E' ⟨h, l, p, rfl, hl, hq⟩ _
    exact ⟨rfl, h, l, p, rfl, hl, hq⟩

theorem sc_beginning : FnScope ["row", "many", "place"] ["row", "many"] (defScope (top 3)) := ⟨rfl, rfl, rfl, by decide +kernel, rfl, by decide +kernel, by decide +kernel⟩
theorem ok_beginning {P : Program} {w : World} {K : PySem.W.Frag} {mg : Str → Option Value} {base : Heap} {f : Addr} {fd : FuncData} (F : Fun K "beginning" "beginning" (top 3) f fd) (b_range : mg "range" = none) (b_tuple : mg "tuple" = none) (C_thing_at : CalD P w K mg base 1 "thing_at" ["looped", "place"] (top 1) S_thing_at) :
    FnOk P w K mg base (L2.CX P w) 2 f fd ["row", "many"] (liftSp K mg 2 S_beginning) := by
  refine ok_defG (k := 1) (N := ["row", "many", "place"]) F sc_beginning fun _ _ cdv A outer s H E _ _ g hp => ?_
  refine' ⟨_, ?walk, ?rest⟩
  case walk =>
    refine' n_scons (n_ret (r_tupleOf g b_tuple (r_cons (r_lc g false (.one 2) [("place", 2)] (r_range1 g b_range (r_cons (r_var 1) n_nil)) (fun _ _ _ _ _ g1 => ⟨(r_tg1 g1 2), r_ifs0, (r_call g1 C_thing_at (r_cons (r_var 0) (r_cons (r_var 2) n_nil)))⟩)) n_nil))) ?r1
    case r1 =>
     exact n_snil
  case rest =>
    rintro ds Q E' ⟨h, l, m, rfl, hl, hm, hq⟩ _
    refine ⟨⟨by omega, by omega⟩, ?_⟩
    refine compL_run (fun d o => o = some (fInt (fun i => .int (rowAt h l i.toNat)) d)) trivial (by rw [len_range]; simp; exact Nat.le_trans hm (by decide)) (fun d hd C Pp c hP => ?_) fun ys hy => ?_
    · obtain ⟨i, rfl, i0, i1⟩ := mem_range hd
      obtain ⟨i, rfl⟩ := Int.eq_ofNat_of_zero_le i0
      exact ⟨rfl, fun _ => ⟨rfl, h, l, i, rfl, hl, rfl, c, hP _ rfl⟩, fun z => (by cases z)⟩
    · rw [hy.map, map_range]
      refine ⟨_, rfl, ?_⟩
      have e : (List.map (fun i : Nat => D.int (rowAt h l (i : Int).toNat)) (List.range m)) = ((List.range m).map (rowAt h l)).map D.int := by simp [List.map_map, Function.comp_def]
      rw [List.nil_append, e]
      exact hq

theorem sc_shortest_loop : FnScope ["loop", "many"] ["loop"] (defScope (top 4)) := ⟨rfl, rfl, rfl, by decide +kernel, rfl, by decide +kernel, by decide +kernel⟩
theorem ok_shortest_loop {P : Program} {w : World} {K : PySem.W.Frag} {mg : Str → Option Value} {base : Heap} {f : Addr} {fd : FuncData} (F : Fun K "shortest_loop" "shortest_loop" (top 4) f fd) (b_len : mg "len" = none) (b_range : mg "range" = none) :
    FnOk P w K mg base (L2.CX P w) 1 f fd ["loop"] (liftSp K mg 1 S_shortest_loop) := by
  refine ok_defG (k := 0) (N := ["loop", "many"]) F sc_shortest_loop fun _ _ cdv A outer s H E _ _ g hp => ?_
  refine' ⟨_, ?walk, ?rest⟩
  case walk =>
    refine' n_scons (r_for g hp (r_range2 g b_range (r_cons n_int (r_cons (r_len g b_len (r_cons (r_var 0) n_nil)) n_nil))) (r_gn g 1) ?a1) ?r1
    case a1 =>
      refine' n_scons (n_if (n_and (r_tcmp g .Eq (n_bin .Mod (r_len g b_len (r_cons (r_var 0) n_nil)) (r_var 1)) n_int) (n_and1 (r_tcmp g .Eq (n_bin .Mult (n_sl (r_var 0) n_o0 (n_o1 (r_var 1))) (n_bin .FloorDiv (r_len g b_len (r_cons (r_var 0) n_nil)) (r_var 1))) (r_var 0)))).pt ?a2 ?b2) ?r2
      case a2 =>
        refine' n_scons (n_ret (n_sl (r_var 0) n_o0 (n_o1 (r_var 1)))) ?r3
        case r3 =>
         exact n_snil
      case b2 =>
        exact n_snil
      case r2 =>
       exact n_snil
    case r1 =>
     refine' n_scons (n_ret (r_var 0)) ?r4
     case r4 =>
      exact n_snil
  case rest =>
    rintro ds Q E' ⟨l, rfl, hl, hz, hq⟩ _
    have hpos : 0 < l.length := List.length_pos_iff.mpr hl
    refine ⟨_, rfl, ⟨by omega, by omega⟩, ⟨by rw [List.length_map]; omega, by rw [List.length_map]; omega⟩, ?_⟩
    refine forL_run (fun items env st => ∃ (a : Nat) (x : Option Va), items = rangeD a l.length ∧ 1 ≤ a ∧ a ≤ l.length ∧ env = [some (.dat (intsD l)), x] ∧ st = [] ∧ ∀ k, 0 < k → k < a → k ∣ l.length → ¬ Rpt l k) ?_ ?_ ⟨1, none, by rw [List.length_map]; rfl, Nat.le_refl _, hpos, rfl, rfl, fun k h1 h2 => by omega⟩
    · rintro env st ⟨a, x, hi, h1, h2, rfl, rfl, hm⟩
      have ea : a = l.length := by
        rcases Nat.lt_or_ge a l.length with z | z
        · rw [range_cons (by omega)] at hi
          cases hi
        · omega
      subst ea
      have e := hq (l.take l.length) (short_of hpos (Nat.le_refl _) (Nat.dvd_refl _) (fun i hi => by rw [Nat.mod_eq_of_lt hi]) hm)
      rw [List.take_length] at e
      exact ⟨trivial, e⟩
    · rintro F d ds env st ⟨a, x, hi, h1, h2, rfl, rfl, hm⟩ ih
      have lt : a < l.length := by
        rcases Nat.lt_or_ge a l.length with z | z
        · exact z
        · rw [range_nil (by omega)] at hi
          cases hi
      rw [range_cons (by omega)] at hi
      obtain ⟨rfl, rfl⟩ := List.cons.inj hi
      have d1 : eqvD (.int (((l.map D.int).length : Int).fmod (a : Int))) (.int 0) = decide (a ∣ l.length) := by
        rw [eqv_int, List.length_map, fmod_nat, Bool.eq_iff_iff, decide_eq_true_iff, beq_iff_eq]
        constructor
        · intro z; exact Nat.dvd_of_mod_eq_zero (by omega)
        · intro z; rw [Nat.mod_eq_zero_of_dvd z]; rfl
      have k1 : ∀ z : a ∣ l.length, 1 ≤ l.length / a ∧ l.length / a ≤ 1000 := fun z => ⟨Nat.div_pos (Nat.le_of_dvd hpos z) h1, Nat.le_trans (Nat.div_le_self _ _) hz⟩
      have rp : ∀ z : a ∣ l.length, eqvD (.tup (List.replicate (((l.map D.int).length : Int).fdiv (a : Int)).toNat (cutD (l.map D.int) none (some (a : Int)))).flatten) (intsD l) = decide (Rpt l a) := fun z => by
        rw [List.length_map, fdiv_nat, Int.toNat_natCast, cut_map, cut_to, rep_map, ints_eqv, Bool.eq_iff_iff, decide_eq_true_iff, decide_eq_true_iff]
        exact rpt_iff h1 h2 z
      have kk : ((l.map D.int).length : Int).fdiv (a : Int) = ((l.length / a : Nat) : Int) := by rw [List.length_map, fdiv_nat]
      have next : ¬ (a ∣ l.length ∧ Rpt l a) → ∀ x, F (rangeD ((a : Int) + 1) l.length) [some (.dat (intsD l)), x] [] := fun z x => ih _ _ ⟨a + 1, x, rfl, by omega, by omega, rfl, rfl, fun k k1 k2 k3 k4 => by
        rcases Nat.lt_or_ge k a with q | q
        · exact hm k k1 q k3 k4
        · have : k = a := by omega
          subst this
          exact z ⟨k3, k4⟩⟩
      refine ⟨trivial, _, rfl, by show (a : Int) ≠ 0; omega, rfl, fun t1 => ?_, fun t1 => ⟨fun z => (nomatch z), fun _ => next (fun z => ?_) _⟩⟩
      · have dv : a ∣ l.length := of_decide_eq_true (d1.symm.trans t1)
        obtain ⟨q1, q2⟩ := k1 dv
        refine ⟨_, rfl, divOk_nat h1 (by omega), ?_, ?_, ?_, ?_, ?_, fun t2 => ?_, fun t2 => ?_⟩
        · rw [cut_map, cut_to]
          intro z
          have := congrArg List.length z
          rw [List.length_map, List.length_take, List.length_nil] at this
          omega
        · rw [kk]; omega
        · rw [kk]; omega
        · rw [cut_map, cut_to, List.length_map, List.length_take]; omega
        · rw [cut_map, rep_map, ints_ok, ints_ok]; rfl
        · have rt : Rpt l a := of_decide_eq_true ((rp dv).symm.trans t2)
          have e := hq (l.take a) (short_of h1 h2 dv rt hm)
          show Q (.tup (cutD (l.map D.int) none (some (a : Int))))
          rw [cut_map, cut_to]
          exact e
        · refine next (fun z => ?_) _
          exact absurd z.2 (of_decide_eq_false ((rp dv).symm.trans t2))
      · exact absurd z.1 (of_decide_eq_false (d1.symm.trans t1))

theorem sc_plain_row : FnScope ["row", "head", "loop"] ["row"] (defScope (top 5)) := ⟨rfl, rfl, rfl, by decide +kernel, rfl, by decide +kernel, by decide +kernel⟩
theorem ok_plain_row {P : Program} {w : World} {K : PySem.W.Frag} {mg : Str → Option Value} {base : Heap} {f : Addr} {fd : FuncData} (F : Fun K "plain_row" "plain_row" (top 5) f fd) (C_shortest_loop : CalD P w K mg base 1 "shortest_loop" ["loop"] (top 4) S_shortest_loop) :
    FnOk P w K mg base (L2.CX P w) 2 f fd ["row"] (liftSp K mg 1 S_plain_row) := by
  refine ok_defG (k := 1) (N := ["row", "head", "loop"]) F sc_plain_row fun _ _ cdv A outer s H E _ _ g hp => ?_
  refine' ⟨_, ?walk, ?rest⟩
  case walk =>
    refine' n_scons (r_par g 1 2 (r_cons (r_ix (r_var 0) n_int) (r_cons (r_call g C_shortest_loop (r_cons (r_ix (r_var 0) n_int) n_nil)) n_nil))) ?r1
    case r1 =>
     refine' n_scons (r_while hp (n_and (r_tcmp g .NotEq (r_var 1) (n_tup n_nil)) (n_and1 (r_tcmp g .Eq (r_ix (r_var 1) (r_neg n_int)) (r_ix (r_var 2) (r_neg n_int))))).pt ?a2) ?r2
     case a2 =>
       refine' n_scons (r_par g 1 2 (r_cons (n_sl (r_var 1) n_o0 (n_o1 (r_neg n_int))) (r_cons (n_bin .Add (n_sl (r_var 2) (n_o1 (r_neg n_int)) n_o0) (n_sl (r_var 2) n_o0 (n_o1 (r_neg n_int)))) n_nil))) ?r3
       case r3 =>
        exact n_snil
     case r2 =>
      refine' n_scons (n_ret (n_tup (r_cons (r_var 1) (r_cons (r_var 2) n_nil)))) ?r4
      case r4 =>
       exact n_snil
  case rest =>
      rintro ds Q E' ⟨h, l, rfl, hl, z, hq⟩ _
      refine ⟨_, rfl, _, rfl, _, rfl, _, rfl, rfl, l, rfl, hl, z, fun l1 s1 => ?_⟩
      refine ⟨fun m env st => ∃ (a b : List Int), env = [some (.dat (rowD h l)), some (.dat (intsD a)), some (.dat (intsD b))] ∧ st = [] ∧ b ≠ [] ∧ Prim b ∧ b.length ≤ l.length ∧ a.length = m ∧ a.length ≤ h.length ∧ ∀ n, rowAt a b n = rowAt h l n, ⟨_, h, l1, rfl, rfl, s1.1, s1.2.1, s1.2.2.1, rfl, Nat.le_refl _, fun n => short_row s1 n⟩, ?_⟩
      rintro m env st ⟨a, b, rfl, rfl, b1, b2, b3, rfl, b5, b6⟩
      have two : 2 ≤ sizeLine := by decide
      refine ⟨Nat.zero_le _, by rw [ints_ok]; rfl, fun t1 => ?_, fun t1 => ⟨fun z => (nomatch z), fun _ => ⟨two, hq a b ⟨b1, b2, fun w e1 _ => ?_⟩ b6 b5 b3⟩⟩⟩
      rotate_left
      · have t1 : (!eqvD (intsD a) (intsD [])) = false := t1
        rw [ints_eqv] at t1
        have : a = [] := by simpa using t1
        rw [this] at e1
        cases e1
      have an : a ≠ [] := by
        have t1 : (!eqvD (intsD a) (intsD [])) = true := t1
        rw [ints_eqv] at t1
        simpa using t1
      obtain ⟨a0, x, rfl⟩ := list_last an
      obtain ⟨b0, y, rfl⟩ := list_last b1
      refine ⟨_, rfl, .int x, by rw [List.map_append]; exact atI_last, _, rfl, .int y, by rw [List.map_append]; exact atI_last, rfl, fun t2 => ?_, fun t2 => ⟨two, hq _ _ ⟨b1, b2, fun w e1 e2 => ?_⟩ b6 b5 b3⟩⟩
      · have xy : x = y := eq_of_beq (show (x == y) = true from t2)
        subst xy
        have c1 : cutD ((a0 ++ [x]).map D.int) none (some (-1)) = a0.map D.int := by rw [cut_map, cut_init]
        have c2 : cutD ((b0 ++ [x]).map D.int) (some (-1)) none = [x].map D.int := by rw [cut_map, cut_end]
        have c3 : cutD ((b0 ++ [x]).map D.int) none (some (-1)) = b0.map D.int := by rw [cut_map, cut_init]
        have bl : b0.length + 1 ≤ l.length := by simpa using b3
        refine ⟨?_, a0.length, by simp, a0, x :: b0, ?_, rfl, by simp, prim_rot b2, by simpa using bl, rfl, by simp at b5; omega, fun n => ?_⟩
        · rw [c2, c3, List.length_map, List.length_map]
          exact Nat.le_trans (show [x].length + b0.length ≤ 1001 by simp; omega) (by decide)
        · show [_, some (Va.dat (.tup (cutD ((a0 ++ [x]).map D.int) none (some (-1))))), some (Va.dat (.tup (cutD ((b0 ++ [x]).map D.int) (some (-1)) none ++ cutD ((b0 ++ [x]).map D.int) none (some (-1)))))] = _
          rw [c1, c2, c3]
          rfl
        · rw [← turn_row, b6]
      · rw [List.getLast?_concat] at e1 e2
        rw [Option.some.inj e1, Option.some.inj e2] at t2
        have t2 : (w == w) = false := t2
        rw [beq_self_eq_true] at t2
        cases t2

theorem sc_same_row : FnScope ["one", "other"] ["one", "other"] (defScope (top 6)) := ⟨rfl, rfl, rfl, by decide +kernel, rfl, by decide +kernel, by decide +kernel⟩
theorem ok_same_row {P : Program} {w : World} {K : PySem.W.Frag} {mg : Str → Option Value} {base : Heap} {f : Addr} {fd : FuncData} (F : Fun K "same_row" "same_row" (top 6) f fd) (C_plain_row : CalD P w K mg base 2 "plain_row" ["row"] (top 5) S_plain_row) :
    FnOk P w K mg base (L2.CX P w) 3 f fd ["one", "other"] (liftSp K mg 2 S_same_row) := by
  refine ok_defG (k := 2) (N := ["one", "other"]) F sc_same_row fun _ _ cdv A outer s H E _ _ g hp => ?_
  refine' ⟨_, ?walk, ?rest⟩
  case walk =>
    refine' n_scons (n_ret (r_cmp g .Eq (r_call g C_plain_row (r_cons (r_var 0) n_nil)) (r_call g C_plain_row (r_cons (r_var 1) n_nil)))) ?r1
    case r1 =>
     exact n_snil
  case rest =>
    rintro ds Q E' ⟨h, l, h', l', rfl, hl, hl', z, z', hq⟩ _
    refine ⟨rfl, h, l, rfl, hl, z, fun a b p1 e1 _ _ => ?_⟩
    refine ⟨rfl, h', l', rfl, hl', z', fun a' b' p2 e2 _ _ => ?_⟩
    refine ⟨by rw [row_ok, row_ok]; rfl, ?_⟩
    show Q (.bl (eqvD (rowD a b) (rowD a' b')))
    rw [row_eqv]
    refine hq _ ?_
    rw [decide_eq_true_iff]
    constructor
    · rintro ⟨rfl, rfl⟩ n
      rw [← e1, e2]
    · intro e
      exact plain_uniq p1 p2 fun n => by rw [e1, e2, e]

theorem sc_later : FnScope ["row", "many", "head", "loop", "at"] ["row", "many"] (defScope (top 7)) := ⟨rfl, rfl, rfl, by decide +kernel, rfl, by decide +kernel, by decide +kernel⟩
theorem ok_later {P : Program} {w : World} {K : PySem.W.Frag} {mg : Str → Option Value} {base : Heap} {f : Addr} {fd : FuncData} (F : Fun K "later" "later" (top 7) f fd) (b_len : mg "len" = none) (C_plain_row : CalD P w K mg base 2 "plain_row" ["row"] (top 5) S_plain_row) :
    FnOk P w K mg base (L2.CX P w) 3 f fd ["row", "many"] (liftSp K mg 2 S_later) := by
  refine ok_defG (k := 2) (N := ["row", "many", "head", "loop", "at"]) F sc_later fun _ _ cdv A outer s H E _ _ g hp => ?_
  refine' ⟨_, ?walk, ?rest⟩
  case walk =>
    refine' n_scons (r_asg (r_var 0) (r_gseq g 2 (r_gcons (r_gn g 2) (r_gcons (r_gn g 3) n_gnil)))) ?r1
    case r1 =>
     refine' n_scons (n_if (r_tcmp g .LtE (r_var 1) (r_len g b_len (r_cons (r_var 2) n_nil))) ?a2 ?b2) ?r2
     case a2 =>
       refine' n_scons (n_ret (r_call g C_plain_row (r_cons (n_tup (r_cons (n_sl (r_var 2) (n_o1 (r_var 1)) n_o0) (r_cons (r_var 3) n_nil))) n_nil))) ?r3
       case r3 =>
        exact n_snil
     case b2 =>
       exact n_snil
     case r2 =>
      refine' n_scons (r_asg (n_bin .Mod (n_bin .Sub (r_var 1) (r_len g b_len (r_cons (r_var 2) n_nil))) (r_len g b_len (r_cons (r_var 3) n_nil))) (r_gn g 4)) ?r4
      case r4 =>
       refine' n_scons (n_ret (r_call g C_plain_row (r_cons (n_tup (r_cons (n_tup n_nil) (r_cons (n_bin .Add (n_sl (r_var 3) (n_o1 (r_var 4)) n_o0) (n_sl (r_var 3) n_o0 (n_o1 (r_var 4)))) n_nil))) n_nil))) ?r5
       case r5 =>
        exact n_snil
  case rest =>
    rintro ds Q E' ⟨h, l, m, rfl, hl, z, hq⟩ _
    have hpos : 0 < l.length := List.length_pos_iff.mpr hl
    have two : 2 ≤ sizeLine := by decide
    refine ⟨_, rfl, rfl, ?_⟩
    refine ⟨_, rfl, fun t => ?_, fun t => ?_⟩
    · have t : m ≤ h.length := by simpa using t
      exact ⟨two, rfl, h.drop m, l, by rw [cut_map, cut_from], hl, z, fun h' l' p e1 e2 e3 => hq h' l' p (fun n => by rw [e1, row_drop t]) (by rw [List.length_drop] at e2; omega) e3⟩
    · have t : h.length < m := by simpa using t
      have ea : ((m : Int) - ((h.map D.int).length : Int)).fmod ((l.map D.int).length : Int) = (((m - h.length) % l.length : Nat) : Int) := by
        rw [List.length_map, List.length_map, show (m : Int) - (h.length : Int) = ((m - h.length : Nat) : Int) by omega, fmod_nat]
      have al := Nat.mod_lt (m - h.length) hpos
      refine ⟨_, rfl, _, rfl, by show ((l.map D.int).length : Int) ≠ 0; rw [List.length_map]; omega, Nat.zero_le _, ?_, two, rfl, [], l.drop ((m - h.length) % l.length) ++ l.take ((m - h.length) % l.length), ?_, ?_, ?_, fun h' l' p e1 e2 e3 => hq h' l' p (fun n => ?_) (Nat.le_trans e2 (Nat.zero_le _)) ?_⟩
      · rw [ea, cut_map, cut_map, cut_from, cut_to, List.length_map, List.length_map, List.length_drop, List.length_take]
        exact Nat.le_trans (by omega : _ ≤ 2000) (by decide)
      · rw [ea, cut_map, cut_map, cut_from, cut_to, ← List.map_append]
        rfl
      · intro e
        have := congrArg List.length e
        rw [List.length_append, List.length_drop, List.length_take, List.length_nil] at this
        omega
      · rw [List.length_append, List.length_drop, List.length_take]
        omega
      · rw [e1, row_turns (by omega), row0]
        obtain ⟨k, hk⟩ : ∃ k, m = h.length + k := ⟨m - h.length, by omega⟩
        subst hk
        rw [show n + (h.length + k) = h.length + (n + k) by omega, rowAt_loop, Nat.add_sub_cancel_left, Nat.add_mod_mod]
      · rw [List.length_append, List.length_drop, List.length_take] at e3
        omega

theorem sc_put_ahead : FnScope ["word", "row"] ["word", "row"] (defScope (top 8)) := ⟨rfl, rfl, rfl, by decide +kernel, rfl, by decide +kernel, by decide +kernel⟩
theorem ok_put_ahead {P : Program} {w : World} {K : PySem.W.Frag} {mg : Str → Option Value} {base : Heap} {f : Addr} {fd : FuncData} (F : Fun K "put_ahead" "put_ahead" (top 8) f fd) (b_tuple : mg "tuple" = none) (C_plain_row : CalD P w K mg base 2 "plain_row" ["row"] (top 5) S_plain_row) :
    FnOk P w K mg base (L2.CX P w) 3 f fd ["word", "row"] (liftSp K mg 2 S_put_ahead) := by
  refine ok_defG (k := 2) (N := ["word", "row"]) F sc_put_ahead fun _ _ cdv A outer s H E _ _ g hp => ?_
  refine' ⟨_, ?walk, ?rest⟩
  case walk =>
    refine' n_scons (n_ret (r_call g C_plain_row (r_cons (n_tup (r_cons (n_bin .Add (r_tupleOf g b_tuple (r_cons (r_var 0) n_nil)) (r_ix (r_var 1) n_int)) (r_cons (r_ix (r_var 1) n_int) n_nil))) n_nil))) ?r1
    case r1 =>
     exact n_snil
  case rest =>
    rintro ds Q E' ⟨w, h, l, rfl, hl, z, zw, hq⟩ _
    have two : 2 ≤ sizeLine := by decide
    refine ⟨_, rfl, _, rfl, _, rfl, ?_, _, rfl, _, rfl, two, rfl, w ++ h, l, ?_, hl, z, fun h' l' p e1 e2 e3 => hq h' l' p e1 (by rw [List.length_append] at e2; exact e2) e3⟩
    · rw [List.length_map, List.length_map]
      exact Nat.le_trans zw (by decide)
    · rw [← List.map_append]

theorem sc__law_deal : FnScope ["script", "salt", "wide", "cells", "mix", "cell"] ["script", "salt"] (defScope (top 10)) := ⟨rfl, rfl, rfl, by decide +kernel, rfl, by decide +kernel, by decide +kernel⟩
theorem ok__law_deal {P : Program} {w : World} {K : PySem.W.Frag} {mg : Str → Option Value} {base : Heap} {f : Addr} {fd : FuncData} (F : Fun K "_law_deal" "_law_deal" (top 10) f fd) (b_abs : mg "abs" = none) (b_int : mg "int" = none) :
    FnOk P w K mg base (L2.CX P w) 1 f fd ["script", "salt"] (liftSp K mg 2 S_deal) := by
  refine ok_defG (k := 0) (N := ["script", "salt", "wide", "cells", "mix", "cell"]) F sc__law_deal fun _ _ cdv A outer s H E _ _ g hp => ?_
  refine' ⟨_, ?walk, ?rest⟩
  case walk =>
    refine' n_scons (r_asg (n_bin .Mult (n_bin .Mult (n_bin .Mult (n_bin .Mult (n_bin .Mult (n_bin .Pow n_int n_int) (n_bin .Pow n_int n_int)) (n_bin .Pow n_int n_int)) (n_bin .Pow n_int n_int)) (n_bin .Pow n_int n_int)) (n_bin .Pow n_int n_int)) (r_gn g 2)) ?r1
    case r1 =>
     refine' n_scons (r_par g 3 4 (r_cons (r_lc g false (.one 5) [("cell", 5)] (n_iseq (n_sl (r_var 0) n_o0 (n_o1 n_int))) (fun _ _ _ _ _ g1 => ⟨(r_tg1 g1 5), r_ifs0, (n_bin .Mod (r_int g1 b_int (r_cons (r_abs g1 b_abs (r_cons (r_int g1 b_int (r_cons (r_var 5) n_nil)) n_nil)) n_nil)) (r_var 2))⟩)) (r_cons (n_bin .Add n_int (n_bin .Mult n_int (r_var 1))) n_nil))) ?r2
     case r2 =>
      refine' n_scons (r_for g hp (n_iseq (r_var 3)) (r_gn g 5) ?a3) ?r3
      case a3 =>
        refine' n_scons (r_asg (n_bin .Mod (r_int g b_int (r_cons (n_bin .Add (n_bin .Add (n_bin .Mult (r_var 4) n_int) (n_bin .Mod (r_int g b_int (r_cons (r_var 5) n_nil)) n_int)) n_int) n_nil)) n_int) (r_gn g 4)) ?r4
        case r4 =>
         exact n_snil
      case r3 =>
       refine' n_scons (r_retDeal (r_lc g false (.one 5) [("cell", 5)] (n_iseq (r_var 3)) (fun _ _ _ _ _ g1 => ⟨(r_tg1 g1 5), (r_ifs (r_tcmp g1 .GtE (r_var 5) (n_bin .Pow n_int n_int))), (r_var 5)⟩)) (r_var 4)) ?r5
       case r5 =>
        exact n_snil
  case rest =>
    rintro ds Q E' ⟨ns, salt, rfl, hl, hs, hq⟩ _
    obtain ⟨W, hW⟩ : ∃ W : Int, W = 10 ^ (64 : Int).toNat * 10 ^ (64 : Int).toNat * 10 ^ (64 : Int).toNat * 10 ^ (64 : Int).toNat * 10 ^ (64 : Int).toNat * 10 ^ (64 : Int).toNat := ⟨_, rfl⟩
    have hWN : W = wideN := by rw [hW]; decide +kernel
    have p64 : CPow 10 64 := ⟨by decide, by decide, by decide⟩
    have ml : ∀ a b : Int, (a.natAbs.log2 + b.natAbs.log2 < 1000000) → MulOk a b := fun a b h => h
    refine seqS_cut (fun env st => env = [some (.dat (.scr ns)), some (.dat (.int salt)), some (.dat (.int W)), none, none, none] ∧ st = []) (fun nx hnx => ⟨p64, p64, ml _ _ (by decide +kernel), p64, ml _ _ (by decide +kernel), p64, ml _ _ (by decide +kernel), p64, ml _ _ (by decide +kernel), p64, ml _ _ (by decide +kernel), hnx _ _ ⟨by rw [hW]; rfl, rfl⟩⟩) ?_
    rintro env st ⟨rfl, rfl⟩
    have w0 : W ≠ 0 := by rw [hWN]; decide +kernel
    have wp : 0 < W := by rw [hWN]; decide +kernel
    refine seqS_cut (fun env st => ∃ xs : List Int, env = [some (.dat (.scr ns)), some (.dat (.int salt)), some (.dat (.int W)), some (.dat (.lst (xs.map D.int))), some (.dat (.int (50021 + 8009 * salt))), none] ∧ st = [] ∧ CellsOk xs) (fun nx hnx => ?_) ?_
    · refine ⟨_, rfl, ?_⟩
      have il : ((cutD ns none (some 63)).map D.int).length ≤ 63 := by
        rw [List.length_map, show (63 : Int) = ((63 : Nat) : Int) from rfl, cut_to, List.length_take]
        omega
      refine compL_run (fun d o => ∃ x : Int, o = some (.int x) ∧ (0 ≤ x ∧ x < wideN)) trivial (Nat.le_trans (by simpa using il) (by decide)) (fun d hd C Pp c hP => ?_) fun ys hy => ?_
      · obtain ⟨n, _, rfl⟩ := List.mem_map.mp hd
        refine ⟨rfl, fun _ => ⟨trivial, w0, rfl, c, hP _ ⟨_, rfl, ?_, ?_⟩⟩, fun z => (by cases z)⟩
        · rw [Int.fmod_eq_emod_of_nonneg _ (by omega)]; exact Int.emod_nonneg _ w0
        · rw [← hWN, Int.fmod_eq_emod_of_nonneg _ (by omega)]; exact Int.emod_lt_of_pos _ wp
      · obtain ⟨xs, rfl, l, q⟩ := outs_ints hy
        refine ⟨mulOk_small (by decide) (by omega), hnx _ _ ⟨xs, ?_, rfl, ⟨by rw [l]; exact il, q⟩⟩⟩
        rfl
    · rintro env st ⟨xs, rfl, rfl, hc⟩
      refine seqS_cut (fun env st => ∃ (m : Int) (x : Option Va), env = [some (.dat (.scr ns)), some (.dat (.int salt)), some (.dat (.int W)), some (.dat (.lst (xs.map D.int))), some (.dat (.int m)), x] ∧ st = [] ∧ 0 ≤ m ∧ m < 2147483647) (fun nx hnx => ?_) ?_
      · refine ⟨_, rfl, ?_⟩
        refine forL_run (fun items env st => ∃ (m : Int) (x : Option Va), (∀ d ∈ items, ∃ n : Int, d = .int n) ∧ env = [some (.dat (.scr ns)), some (.dat (.int salt)), some (.dat (.int W)), some (.dat (.lst (xs.map D.int))), some (.dat (.int m)), x] ∧ st = [] ∧ 0 ≤ m ∧ m < 2147483647) ?_ ?_ ⟨_, none, fun d hd => (by obtain ⟨n, _, rfl⟩ := List.mem_map.mp hd; exact ⟨n, rfl⟩), rfl, rfl, by omega, by omega⟩
        · rintro env st ⟨m, x, _, rfl, rfl, m0, m1⟩
          exact ⟨trivial, hnx _ _ ⟨m, x, rfl, rfl, m0, m1⟩⟩
        · rintro F d ds env st ⟨m, x, hd, rfl, rfl, m0, m1⟩ ih
          obtain ⟨n, rfl⟩ := hd d List.mem_cons_self
          refine ⟨trivial, mulOk_small (by omega) (by decide), (by decide : (2147483563 : Int) ≠ 0), (by decide : (2147483647 : Int) ≠ 0), ih _ _ ⟨_, _, fun d hd' => hd d (List.mem_cons_of_mem _ hd'), rfl, rfl, ?_, ?_⟩⟩
          · rw [Int.fmod_eq_emod_of_nonneg _ (by omega)]; exact Int.emod_nonneg _ (by decide)
          · rw [Int.fmod_eq_emod_of_nonneg _ (by omega)]; exact Int.emod_lt_of_pos _ (by decide)
      · rintro env st ⟨m, x, rfl, rfl, m0, m1⟩
        refine ⟨_, rfl, ?_⟩
        refine compL_run (fun d o => o = none ∨ ∃ x : Int, o = some (.int x) ∧ (0 ≤ x ∧ x < wideN)) trivial (Nat.le_trans (by have := hc.1; simpa using this) (by decide : 63 ≤ sizeLine)) (fun d hd C Pp c hP => ?_) fun ys hy => ?_
        · obtain ⟨n, hn, rfl⟩ := List.mem_map.mp hd
          exact ⟨⟨by decide, by decide, by decide⟩, rfl, fun _ => ⟨rfl, c, hP _ (.inr ⟨n, rfl, hc.2 n hn⟩)⟩, fun _ => hP _ (.inl rfl)⟩
        · obtain ⟨cs, rfl, l, q⟩ := outs_sub hy
          exact ⟨cs, rfl, ⟨Nat.le_trans l (by rw [List.length_map]; exact hc.1), q⟩, m, rfl, ⟨m0, m1⟩, hq⟩

theorem sc__law_any : FnScope ["deal", "bound", "rest"] ["deal", "bound"] (defScope (top 11)) := ⟨rfl, rfl, rfl, by decide +kernel, rfl, by decide +kernel, by decide +kernel⟩
theorem ok__law_any {P : Program} {w : World} {K : PySem.W.Frag} {mg : Str → Option Value} {base : Heap} {f : Addr} {fd : FuncData} (F : Fun K "_law_any" "_law_any" (top 11) f fd) (b_int : mg "int" = none) (b_len : mg "len" = none) :
    FnOk P w K mg base (L2.CX P w) 1 f fd ["deal", "bound"] (liftSp K mg 2 S_any) := by
  refine F.okX (k := 0) (N := ["deal", "bound", "rest"]) sc__law_any (fun vs H Q E h => h.1) fun cdv A outer s H vs Q E hr h => ?_
  have hp : PassesOwn (model P w) (cxOf (L2.CX P w) P w K mg base ["deal", "bound", "rest"] "_law_any" (defScope (top 11)) f cdv A outer s H E).A _ (cxOf (L2.CX P w) P w K mg base ["deal", "bound", "rest"] "_law_any" (defScope (top 11)) f cdv A outer s H E).xe := L2.passes_of rfl
  refine ⟨_, pss_cons (ps_while hp
        (pw_and (pt_cmpR op_gt (pe_callB call_len_seq (by rfl) b_len PySem.boot_len (pa_cons (pe_ix ix_list (pv 0) pe_int (by intro _ _; rfl)) pa_nil)) pe_int (by rfl))
          (pw_and1 (pt_cmpR op_eq (pe_ix ix_list (pe_ix ix_list (pv 0) pe_int (by intro _ _; rfl)) (pe_un un_neg pe_int) (by intro _ _; rfl)) pe_int (by rfl)))).pt
        (pss_one (ps_expr (pe_bm0 PySem.F.plainAttrs_list PySem.F.slot_list_pop PySem.F.type_list_pop mt_pop (pe_ix ix_list (pv 0) pe_int (by intro _ _; rfl))))))
      (pss_cons (ps_if (pt_cmpR op_gt (pe_callB call_len_seq (by rfl) b_len PySem.boot_len (pa_cons (pe_ix ix_list (pv 0) pe_int (by intro _ _; rfl)) pa_nil)) pe_int (by rfl))
        (pss_cons (ps_asg (pe_callTy call_int1 (by rfl) b_int PyProof.Rows.boot_int (pa_cons (pe_bm0 PySem.F.plainAttrs_list PySem.F.slot_list_pop PySem.F.type_list_pop mt_pop (pe_ix ix_list (pv 0) pe_int (by intro _ _; rfl))) pa_nil)) (pg_name (i := 2) sc__law_any.nd rfl (Or.inl rfl)))
          (pss_cons (ps_expr (pe_bm PySem.F.plainAttrs_list PySem.F.slot_list_append PySem.F.type_list_append mt_append (pe_ix ix_list (pv 0) pe_int (by intro _ _; rfl)) (pa_cons (pe_op op_fdivX (pv 2) (pv 1)) pa_nil)))
          (pss_one (ps_ret (pe_op op_modN (pv 2) (pv 1)))))) pss_nil)
      (pss_cons (ps_asg (pe_op op_modN (pe_callTy call_int1 (by rfl) b_int PyProof.Rows.boot_int (pa_cons (pe_op op_add (pe_op op_mul (pe_ix ix_list (pv 0) pe_int (by intro _ _; rfl)) pe_int) pe_int) pa_nil)) pe_int) (pg_sub (pv 0) pe_int set_list (by intro _; rfl)))
      (pss_one (ps_ret (pe_op op_modN (pe_callTy call_int1 (by rfl) b_int PyProof.Rows.boot_int (pa_cons (pe_op op_fdivX (pe_ix ix_list (pv 0) pe_int (by intro _ _; rfl)) pe_int) pa_nil)) (pv 1)))))), ?_⟩
  obtain ⟨hn, ω, ds, Qd, Ed, ha, hl, wo, r, ⟨n, rfl, n1, n2, hq⟩, hQ, hE⟩ := h
  cases r with
  | cons r1 r =>
    cases r with
    | cons r2 r =>
      cases r
      cases r2
      cases r1 with
      | deal hm =>
        rename_i a q
        obtain ⟨m0, cs0, h1, h2, h3, h4⟩ := wo.dls _ hm
        have ne := deal_ne wo hm
        have out : ∀ (H' : Hp) (m : Int) (cs : List Int) (x : Int), AnyAt H H' a q m cs → 0 ≤ x → x < n → Q (.int x) H' := fun H' m cs x ⟨g1, g2, g3, g4, g5⟩ x0 x1 => by
          obtain ⟨w', e'⟩ := deal_step wo hm g5 ⟨m, cs, g1, g2, g3, g4⟩
          exact hQ (.int x) ω H' _ e' ha hl w' (.int x) (hq x x0 x1)
        refine seq_cut (fun σ H' => ∃ m cs, σ = [some (.ref a), some (.int n), none] ∧ AnyAt H H' a q m cs) (fun nx hnx => ?_) ?_
        · refine ⟨fun k σ H' => ∃ m cs, σ = [some (.ref a), some (.int n), none] ∧ AnyAt H H' a q m cs ∧ k = cs.length, ⟨_, m0, cs0, rfl, ⟨h1, h2, h3, h4, fun _ _ _ => rfl⟩, rfl⟩, ?_⟩
          rintro k σ H' ⟨m, cs, rfl, G, rfl⟩
          obtain ⟨g1, g2, g3, g4, g5⟩ := id G
          refine ⟨.ref a, rfl, a, _, 0, .ref q, rfl, rfl, SqL.of g1, rfl, q, cs.map V.int, rfl, .inl (SqL.of g2), _, _, rfl, rfl, _, rfl, ?_⟩
          refine ite2 (fun h => ?_) (fun h => iteF (hnx _ _ ⟨m, cs, rfl, G⟩))
          obtain ⟨r, c, rfl⟩ := cells_last (cs := cs) (fun e => by subst e; simp at h)
          refine ⟨.ref a, rfl, a, _, 0, .ref q, rfl, rfl, SqL.of g1, rfl, 1, rfl, q, _, -1, .int c, rfl, rfl, SqL.of g2, by rw [List.map_append]; exact atI_last, rfl, _, rfl, ?_⟩
          refine ite2 (fun h => ?_) (fun h => hnx _ _ ⟨m, _, rfl, G⟩)
          refine ⟨fun σ H' => ∃ m cs, σ = [some (.ref a), some (.int n), none] ∧ AnyAt H H' a q m cs ∧ cs.length < (r ++ [c]).length, fun σ' H2 ⟨m, cs, e, G2, l⟩ => ⟨cs.length, l, m, cs, e, G2, rfl⟩, ?_⟩
          refine ⟨.ref a, rfl, a, _, 0, .ref q, rfl, rfl, SqL.of g1, rfl, .inl ⟨rfl, _, SqL.of g2⟩, q, _, .int c, rfl, rfl, g2, by simp, ?_⟩
          refine ⟨m, r, rfl, ⟨by rw [upd_ne ne]; exact g1, by rw [upd_same]; simp, cells_cut g3, g4, fun b b1 b2 => by rw [upd_ne b2]; exact g5 b b1 b2⟩, by simp⟩
        rintro σ H' ⟨m, cs, rfl, G⟩
        obtain ⟨g1, g2, g3, g4, g5⟩ := id G
        have nz : n ≠ 0 := by omega
        refine ⟨.ref a, rfl, a, _, 0, .ref q, rfl, rfl, SqL.of g1, rfl, q, cs.map V.int, rfl, .inl (SqL.of g2), _, _, rfl, rfl, _, rfl, ?_⟩
        refine ite2 (fun h => ?_) (fun h => ?_)
        · obtain ⟨r, c, rfl⟩ := cells_last (cs := cs) (fun e => by subst e; simp at h)
          have hc := g3.2 c (List.mem_append_right _ (List.mem_singleton.mpr rfl))
          refine ⟨.ref a, rfl, a, _, 0, .ref q, rfl, rfl, SqL.of g1, rfl, .inl ⟨rfl, _, SqL.of g2⟩, q, _, .int c, rfl, rfl, g2, by simp, .inl ⟨c, rfl, ?_⟩⟩
          have G2 : AnyAt H (upd H' q (.lst (List.map V.int (r ++ [c])).dropLast)) a q m r := ⟨by rw [upd_ne ne]; exact g1, by rw [upd_same]; simp, cells_cut g3, g4, fun b b1 b2 => by rw [upd_ne b2]; exact g5 b b1 b2⟩
          refine ⟨.ref a, rfl, a, _, 0, .ref q, rfl, rfl, SqL.of G2.1, rfl, .inl ⟨rfl, _, SqL.of G2.2.1⟩, _, rfl, _, rfl, c, n, rfl, rfl, ⟨nz, n2⟩, q, _, _, rfl, rfl, G2.2.1, ?_, ?_⟩
          · have := g3.1
            simp at this ⊢
            exact Nat.lt_of_lt_of_le (by omega : r.length < 64) (by decide)
          refine ⟨_, rfl, _, rfl, c, n, rfl, rfl, nz, ?_⟩
          have d0 : 0 ≤ c.fdiv n := by rw [Int.fdiv_eq_ediv_of_nonneg _ (by omega)]; exact Int.ediv_nonneg hc.1 (by omega)
          have d1 : c.fdiv n ≤ c := by rw [Int.fdiv_eq_ediv_of_nonneg _ (by omega)]; exact Int.ediv_le_self _ hc.1
          refine out _ m (r ++ [c.fdiv n]) _ ⟨by rw [upd_ne ne]; exact G2.1, by rw [upd_same, List.map_append]; rfl, cells_put g3 d0 d1, g4, fun b b1 b2 => by rw [upd_ne b2]; exact G2.2.2.2.2 b b1 b2⟩ ?_ ?_
          · rw [Int.fmod_eq_emod_of_nonneg _ (by omega)]; exact Int.emod_nonneg _ nz
          · rw [Int.fmod_eq_emod_of_nonneg _ (by omega)]; exact Int.emod_lt_of_pos _ (by omega)
        · have mm : 0 ≤ (m * 48271 + 43).fmod 2147483647 ∧ (m * 48271 + 43).fmod 2147483647 < 2147483647 := by
            rw [Int.fmod_eq_emod_of_nonneg _ (by omega)]
            omega
          refine ⟨.ref a, rfl, a, _, 1, .int m, rfl, rfl, SqL.of g1, rfl, m, 48271, rfl, rfl, .inr (by decide), _, _, rfl, rfl, .inl ⟨_, rfl, _, _, rfl, rfl, (show (2147483647 : Int) ≠ 0 by decide), .ref a, rfl, a, _, 1, 1, rfl, rfl, g1, rfl, ?_⟩⟩
          have G2 : AnyAt H (upd H' a (.lst [.ref q, .int ((m * 48271 + 43).fmod 2147483647)])) a q ((m * 48271 + 43).fmod 2147483647) cs := ⟨upd_same, by rw [upd_ne ne.symm]; exact g2, g3, mm, fun b b1 b2 => by rw [upd_ne b1]; exact g5 b b1 b2⟩
          refine ⟨.ref a, rfl, a, _, 1, .int _, rfl, rfl, SqL.of G2.1, rfl, _, 64, rfl, rfl, (show DivOk 64 from ⟨by decide, by decide⟩), .inl ⟨_, rfl, .int n, rfl, _, n, rfl, rfl, nz, ?_⟩⟩
          refine out _ _ cs _ G2 ?_ ?_
          · rw [Int.fmod_eq_emod_of_nonneg _ (by omega)]; exact Int.emod_nonneg _ nz
          · rw [Int.fmod_eq_emod_of_nonneg _ (by omega)]; exact Int.emod_lt_of_pos _ (by omega)
theorem sc__law_is_kind : FnScope ["reply", "due"] ["reply", "due"] (defScope (top 13)) := ⟨rfl, rfl, rfl, by decide +kernel, rfl, by decide +kernel, by decide +kernel⟩
theorem ok__law_is_kind {P : Program} {w : World} {K : PySem.W.Frag} {mg : Str → Option Value} {base : Heap} {f : Addr} {fd : FuncData} (F : Fun K "_law_is_kind" "_law_is_kind" (top 13) f fd) (b_bool : mg "bool" = none) (b_int : mg "int" = none) (b_isinstance : mg "isinstance" = none) (b_str : mg "str" = none) :
    FnOk P w K mg base (L2.CX P w) 1 f fd ["reply", "due"] (liftSp K mg 2 S__law_is_kind) := by
  refine ok_defG (k := 0) (N := ["reply", "due"]) F sc__law_is_kind fun _ _ cdv A outer s H E _ _ g hp => ?_
  refine' ⟨_, ?walk, ?rest⟩
  case walk =>
    refine' n_scons (n_if (r_tcmp g .Is (r_var 1) n_non) ?a1 ?b1) ?r1
    case a1 =>
      refine' n_scons (n_ret (r_cmp g .Is (r_var 0) n_non)) ?r2
      case r2 =>
       exact n_snil
    case b1 =>
      exact n_snil
    case r1 =>
     refine' n_scons (n_if (n_or (r_tcmp g .Is (r_var 1) n_bl) (n_or1 (r_tcmp g .Is (r_var 1) n_bl))).pt ?a3 ?b3) ?r3
     case a3 =>
       refine' n_scons (n_ret (n_ifx (r_truth (r_var 1)) (r_cmp g .Is (r_var 0) n_bl) (r_cmp g .Is (r_var 0) n_bl))) ?r4
       case r4 =>
        exact n_snil
     case b3 =>
       exact n_snil
     case r3 =>
      refine' n_scons (n_if (r_truth (r_isi g "str" b_isinstance b_str (r_var 1) PyProof.Rows.boot_str)) ?a5 ?b5) ?r5
      case a5 =>
        refine' n_scons (n_ret (n_vand (r_isi g "str" b_isinstance b_str (r_var 0) PyProof.Rows.boot_str) (n_vone (r_cmp g .Eq (r_var 0) (r_var 1))))) ?r6
        case r6 =>
         exact n_snil
      case b5 =>
        exact n_snil
      case r5 =>
       refine' n_scons (n_ret (n_vand (r_isi g "int" b_isinstance b_int (r_var 0) PyProof.Rows.boot_int) (n_vand (n_vnot (r_isi g "bool" b_isinstance b_bool (r_var 0) PyProof.Rows.boot_bool)) (n_vone (r_cmp g .Eq (r_var 0) (r_var 1)))))) ?r7
       case r7 =>
        exact n_snil
  case rest =>
    rintro ds Q E' ⟨d, rfl, hf, hq⟩ _
    cases d with
    | non => exact ⟨fun _ => hq, fun z => absurd z (by decide)⟩
    | bl b =>
      cases b with
      | true => exact ⟨fun z => absurd z (by decide), fun _ => ⟨fun _ => ⟨fun _ => ⟨fun _ => hq, fun z => absurd z (by decide)⟩, fun z => absurd z (by decide)⟩, fun z => absurd z (by decide)⟩⟩
      | false => exact ⟨fun z => absurd z (by decide), fun _ => ⟨fun z => absurd z (by decide), fun _ => ⟨fun _ => ⟨fun z => absurd z (by decide), fun _ => hq⟩, fun z => absurd z (by decide)⟩⟩⟩
    | int i =>
      refine ⟨fun z => (by cases z), fun _ => ⟨fun z => (by cases z), fun _ => ⟨fun z => (by cases z), fun _ => ?_⟩⟩⟩
      refine ⟨false, (show kitAnyB "int" ["str"] = some false by decide +kernel), fun z => (by cases z), fun _ => ?_⟩
      refine ⟨true, (show kitAnyB "int" ["int"] = some true by decide +kernel), fun _ => ⟨false, (show kitAnyB "int" ["bool"] = some false by decide +kernel), fun _ => ?_, fun z => (by cases z)⟩, fun z => (by cases z)⟩
      refine ⟨by rw [ok_int]; rfl, ?_⟩
      show Q (.bl (i == i))
      rw [beq_self_eq_true]
      exact hq
    | str x =>
      refine ⟨fun z => (by cases z), fun _ => ⟨fun z => (by cases z), fun _ => ⟨fun z => (by cases z), fun _ => ?_⟩⟩⟩
      refine ⟨true, (show kitAnyB "str" ["str"] = some true by decide +kernel), fun _ => ?_, fun z => (by cases z)⟩
      refine ⟨true, (show kitAnyB "str" ["str"] = some true by decide +kernel), fun _ => ?_, fun z => (by cases z)⟩
      refine ⟨by rw [ok_str, show PyData.strOk x = true from hf]; rfl, ?_⟩
      show Q (.bl (x == x))
      rw [beq_self_eq_true]
      exact hq
    | tup ds => cases hf
    | lst ds => cases hf
    | obj a b c => cases hf
    | deal => cases hf
    | scr ns => cases hf

theorem sc__law_same : FnScope ["reply", "due", "todo", "one", "other"] ["reply", "due"] (defScope (top 14)) := ⟨rfl, rfl, rfl, by decide +kernel, rfl, by decide +kernel, by decide +kernel⟩
theorem ok__law_same {P : Program} {w : World} {K : PySem.W.Frag} {mg : Str → Option Value} {base : Heap} {f : Addr} {fd : FuncData} (F : Fun K "_law_same" "_law_same" (top 14) f fd) (b_dict : mg "dict" = none) (b_isinstance : mg "isinstance" = none) (b_len : mg "len" = none) (b_list : mg "list" = none) (b_tuple : mg "tuple" = none) (b_zip : mg "zip" = none) (C__law_is_kind : CalD P w K mg base 1 "_law_is_kind" ["reply", "due"] (top 13) S__law_is_kind) :
    FnOk P w K mg base (L2.CX P w) 2 f fd ["reply", "due"] (liftSp K mg 2 S__law_same) := by
  refine ok_defG (k := 1) (N := ["reply", "due", "todo", "one", "other"]) F sc__law_same fun _ _ cdv A outer s H E _ _ g hp => ?_
  refine' ⟨_, ?walk, ?rest⟩
  case walk =>
    refine' n_scons (r_asg (n_lst true (r_cons (n_tup (r_cons (r_var 0) (r_cons (r_var 1) n_nil))) n_nil)) (r_gn g 2)) ?r1
    case r1 =>
     refine' n_scons (r_while hp (r_tcmp g .Gt (r_len g b_len (r_cons (r_var 2) n_nil)) n_int) ?a2) ?r2
     case a2 =>
       refine' n_scons (r_asg (r_pop (r_var 2)) (r_gseq g 2 (r_gcons (r_gn g 3) (r_gcons (r_gn g 4) n_gnil)))) ?r3
       case r3 =>
        refine' n_scons (n_if (r_truth (r_isi g "tuple" b_isinstance b_tuple (r_var 4) PyProof.Rows.boot_tuple)) ?a4 ?b4) ?r4
        case a4 =>
          refine' n_scons (n_if (n_or (n_tnot (r_truth (r_isi g "tuple" b_isinstance b_tuple (r_var 3) PyProof.Rows.boot_tuple))) (n_or1 (r_tcmp g .NotEq (r_len g b_len (r_cons (r_var 3) n_nil)) (r_len g b_len (r_cons (r_var 4) n_nil))))).pt ?a5 ?b5) ?r5
          case a5 =>
            refine' n_scons (n_ret n_bl) ?r6
            case r6 =>
             exact n_snil
          case b5 =>
            exact n_snil
          case r5 =>
           refine' n_scons (r_asg (n_cat true (r_var 2) (r_listZip g false b_zip b_list (r_cons (r_var 3) (r_cons (r_var 4) n_nil)))) (r_gn g 2)) ?r7
           case r7 =>
            exact n_snil
        case b4 =>
          refine' n_scons (n_if (n_or (r_truth (r_isiT g ["tuple", "list", "dict"] b_isinstance (r_var 3) (pcls_ty g "tuple" b_tuple PyProof.Rows.boot_tuple (pcls_ty g "list" b_list PyProof.Rows.boot_list (pcls_ty g "dict" b_dict PyProof.Rows.boot_dict pcls_nil))))) (n_or1 (n_tnot (r_truth (r_call g C__law_is_kind (r_cons (r_var 3) (r_cons (r_var 4) n_nil))))))).pt ?a8 ?b8) ?r8
          case a8 =>
            refine' n_scons (n_ret n_bl) ?r9
            case r9 =>
             exact n_snil
          case b8 =>
            exact n_snil
          case r8 =>
           exact n_snil
        case r4 =>
         exact n_snil
     case r2 =>
      refine' n_scons (n_ret n_bl) ?r10
      case r10 =>
       exact n_snil
  case rest =>
    rintro ds Q E' ⟨d, rfl, hg, hs, hq⟩ _
    have two : 2 ≤ sizeLine := by decide
    refine ⟨two, (by decide : 1 ≤ sizeLine), ?_⟩
    refine ⟨fun m env st => ∃ (n : Nat) (ts : List D) (o1 o2 : Option Va), env = [some (.dat d), some (.dat d), some (.loc n), o1, o2] ∧ st[n]? = some (true, ts.map pairD) ∧ goods ts = true ∧ szs ts = m ∧ m ≤ 100000, ⟨sz d, 0, [d], none, none, rfl, rfl, ?_, ?_, hs⟩, ?_⟩
    · show (good d && true) = true
      rw [hg]
      rfl
    · show sz d + 0 = sz d
      rfl
    rintro m env st ⟨n, ts, o1, o2, rfl, hst, h1, h2, h3⟩
    refine ⟨_, seq_loc hst, fun t => ?_, fun t => hq⟩
    have tn : ts ≠ [] := fun e => by rw [e] at t; cases t
    obtain ⟨r, e, rfl⟩ := list_last tn
    have hr : goods r = true ∧ good e = true := by
      rw [goods_app] at h1
      have := Bool.and_eq_true_iff.mp h1
      exact ⟨this.1, (Bool.and_eq_true_iff.mp (show (good e && true) = true from this.2)).1⟩
    have hz : szs r + sz e = m := by
      rw [szs_app] at h2
      exact h2
    have hlen : n < st.length := (List.getElem?_eq_some_iff.mp hst).1
    refine ⟨n, r.map pairD, pairD e, by rw [own_loc hst, List.map_append]; rfl, [e, e], rfl, rfl, ?_⟩
    have se := sz_pos e
    have flat : flatK e = true → True := fun _ => trivial
    have elses : ∀ (K' : DEnv → DSto → Prop), (∀ env' st', (∃ m', m' < m ∧ ∃ (n : Nat) (ts : List D) (o1 o2 : Option Va), env' = [some (.dat d), some (.dat d), some (.loc n), o1, o2] ∧ st'[n]? = some (true, ts.map pairD) ∧ goods ts = true ∧ szs ts = m' ∧ m' ≤ 100000) → K' env' st') → K' [some (.dat d), some (.dat d), some (.loc n), some (.dat e), some (.dat e)] (st.set n (true, r.map pairD)) := fun K' hK => hK _ _ ⟨szs r, by omega, n, r, _, _, rfl, by rw [List.getElem?_set_self hlen], hr.1, rfl, by omega⟩
    cases e with
    | tup es =>
      refine ⟨true, (show kitAnyB "tuple" ["tuple"] = some true by decide +kernel), fun _ => ?_, fun z => (by cases z)⟩
      refine ⟨true, (show kitAnyB "tuple" ["tuple"] = some true by decide +kernel), fun z => (by cases z), fun _ => ?_⟩
      refine ⟨_, rfl, _, rfl, by rw [ok_int]; rfl, fun z => ?_, fun _ => ?_⟩
      · have z : (!((es.length : Int) == (es.length : Int))) = true := z
        rw [beq_self_eq_true] at z
        cases z
      have hz2 : szs r + (1 + szs es) = m := hz
      have l1 := len_szs r
      have l2 := len_szs es
      refine ⟨rfl, _, _, lst_loc (by rw [List.getElem?_set_self hlen]), rfl, ?_, ?_⟩
      · rw [zipD_self, List.length_map, List.length_map]
        exact Nat.le_trans (by omega : _ ≤ 100000) (by decide)
      · refine ⟨szs (r ++ es), by rw [szs_app]; omega, (st.set n (true, r.map pairD)).length, r ++ es, _, _, rfl, ?_, ?_, rfl, by rw [szs_app]; omega⟩
        · rw [List.getElem?_append_right (Nat.le_refl _), Nat.sub_self, zipD_self, List.map_append]
          rfl
        · rw [goods_app, hr.1, show goods es = true from hr.2]
          rfl
    | non => exact ⟨false, (show kitAnyB "NoneType" ["tuple"] = some false by decide +kernel), fun z => (by cases z), fun _ => ⟨false, (show kitAnyB "NoneType" ["tuple", "list", "dict"] = some false by decide +kernel), fun z => (by cases z), fun _ => ⟨rfl, _, rfl, rfl, fun z => (by cases z), fun _ => elses _ fun _ _ q => q⟩⟩⟩
    | bl b => exact ⟨false, (show kitAnyB "bool" ["tuple"] = some false by decide +kernel), fun z => (by cases z), fun _ => ⟨false, (show kitAnyB "bool" ["tuple", "list", "dict"] = some false by decide +kernel), fun z => (by cases z), fun _ => ⟨rfl, _, rfl, rfl, fun z => (by cases z), fun _ => elses _ fun _ _ q => q⟩⟩⟩
    | int i => exact ⟨false, (show kitAnyB "int" ["tuple"] = some false by decide +kernel), fun z => (by cases z), fun _ => ⟨false, (show kitAnyB "int" ["tuple", "list", "dict"] = some false by decide +kernel), fun z => (by cases z), fun _ => ⟨rfl, _, rfl, rfl, fun z => (by cases z), fun _ => elses _ fun _ _ q => q⟩⟩⟩
    | str x => exact ⟨false, (show kitAnyB "str" ["tuple"] = some false by decide +kernel), fun z => (by cases z), fun _ => ⟨false, (show kitAnyB "str" ["tuple", "list", "dict"] = some false by decide +kernel), fun z => (by cases z), fun _ => ⟨rfl, _, rfl, hr.2, fun z => (by cases z), fun _ => elses _ fun _ _ q => q⟩⟩⟩
    | lst ds => exact absurd hr.2 (by simp [good])
    | obj a b c => exact absurd hr.2 (by simp [good])
    | deal => exact absurd hr.2 (by simp [good])
    | scr ns => exact absurd hr.2 (by simp [good])

theorem sc__law_all : FnScope ["pairs", "reply", "due"] ["pairs"] (defScope (top 15)) := ⟨rfl, rfl, rfl, by decide +kernel, rfl, by decide +kernel, by decide +kernel⟩
theorem ok__law_all {P : Program} {w : World} {K : PySem.W.Frag} {mg : Str → Option Value} {base : Heap} {f : Addr} {fd : FuncData} (F : Fun K "_law_all" "_law_all" (top 15) f fd) (b_len : mg "len" = none) (C__law_same : CalD P w K mg base 2 "_law_same" ["reply", "due"] (top 14) S__law_same) :
    FnOk P w K mg base (L2.CX P w) 3 f fd ["pairs"] (liftSp K mg 1 S__law_all) := by
  refine ok_defG (k := 2) (N := ["pairs", "reply", "due"]) F sc__law_all fun _ _ cdv A outer s H E _ _ g hp => ?_
  refine' ⟨_, ?walk, ?rest⟩
  case walk =>
    refine' n_scons (n_ret (r_cmp g .Eq (r_len g b_len (r_cons (r_lc g false (.many [1, 2]) [("reply", 1), ("due", 2)] (n_iseq (r_var 0)) (fun _ _ _ _ _ g1 => ⟨(r_tgm g1 [1, 2] (r_tgn g1 1 (r_tgn g1 2 r_tgn0))), (r_ifs (n_tnot (r_truth (r_call g1 C__law_same (r_cons (r_var 1) (r_cons (r_var 2) n_nil)))))), (r_var 1)⟩)) n_nil)) n_int)) ?r1
    case r1 =>
     exact n_snil
  case rest =>
    rintro ds Q E' ⟨ps, rfl, hp, hl, hq⟩ _
    refine ⟨_, rfl, ?_⟩
    refine compL_run (fun d o => o = none) trivial (by rw [List.length_map]; exact Nat.le_trans (by simpa using hl) (by decide)) (fun d hd C Pp c hP => ?_) fun ys hy => ?_
    · obtain ⟨e, he, rfl⟩ := List.mem_map.mp hd
      refine ⟨rfl, rfl, e, rfl, (hp e he).1, (hp e he).2, rfl, fun z => (by cases z), fun _ => hP none rfl⟩
    · have e : ys = [] := by
        have : ∀ {xs ys : List D}, Outs (fun d o => o = none) xs ys → ys = [] := by
          intro xs ys h
          induction h with
          | nil => rfl
          | put h _ _ => cases h
          | skip _ _ ih => exact ih
        exact this hy
      subst e
      exact ⟨_, rfl, rfl, hq⟩

theorem sc__law_of : FnScope ["deal", "some"] ["deal", "some"] (defScope (top 12)) := ⟨rfl, rfl, rfl, by decide +kernel, rfl, by decide +kernel, by decide +kernel⟩
theorem ok__law_of {P : Program} {w : World} {K : PySem.W.Frag} {mg : Str → Option Value} {base : Heap} {f : Addr} {fd : FuncData} (F : Fun K "_law_of" "_law_of" (top 12) f fd) (b_len : mg "len" = none) (C__law_any : CalD P w K mg base 1 "_law_any" ["deal", "bound"] (top 11) S_any) :
    FnOk P w K mg base (L2.CX P w) 2 f fd ["deal", "some"] (liftSp K mg 2 S__law_of) := by
  refine ok_defG (k := 1) (N := ["deal", "some"]) F sc__law_of fun _ _ cdv A outer s H E _ _ g hp => ?_
  refine' ⟨_, ?walk, ?rest⟩
  case walk =>
    refine' n_scons (n_ret (r_ix (r_var 1) (r_call g C__law_any (r_cons (r_var 0) (r_cons (r_len g b_len (r_cons (r_var 1) n_nil)) n_nil))))) ?r1
    case r1 =>
     exact n_snil
  case rest =>
    rintro ds Q E' ⟨xs, rfl, hne, hl, hq⟩ _
    have hpos := List.length_pos_iff.mpr hne
    refine ⟨_, rfl, rfl, _, rfl, by omega, by rw [Int.natAbs_natCast]; exact log2_small (by decide) (by omega), fun r r0 r1 => ?_⟩
    obtain ⟨i, rfl⟩ := Int.eq_ofNat_of_zero_le r0
    have hi : i < xs.length := by omega
    exact ⟨_, rfl, xs[i], atI_nat hi, hq _ (List.getElem_mem hi)⟩

theorem sc__law_scale : FnScope ["deal", "base", "least"] ["deal"] (defScope (top 16)) := ⟨rfl, rfl, rfl, by decide +kernel, rfl, by decide +kernel, by decide +kernel⟩
theorem ok__law_scale {P : Program} {w : World} {K : PySem.W.Frag} {mg : Str → Option Value} {base : Heap} {f : Addr} {fd : FuncData} (F : Fun K "_law_scale" "_law_scale" (top 16) f fd) (C__law_any : CalD P w K mg base 1 "_law_any" ["deal", "bound"] (top 11) S_any) (C__law_of : CalD P w K mg base 2 "_law_of" ["deal", "some"] (top 12) S__law_of) :
    FnOk P w K mg base (L2.CX P w) 3 f fd ["deal"] (liftSp K mg 1 S__law_scale) := by
  refine ok_defG (k := 2) (N := ["deal", "base", "least"]) F sc__law_scale fun _ _ cdv A outer s H E _ _ g hp => ?_
  refine' ⟨_, ?walk, ?rest⟩
  case walk =>
    refine' n_scons (r_asg (r_call g C__law_of (r_cons (r_var 0) (r_cons (n_lst false (r_cons n_int (r_cons n_int (r_cons n_int (r_cons n_int (r_cons n_int (r_cons n_int (r_cons n_int (r_cons n_int n_nil))))))))) n_nil))) (r_gn g 1)) ?r1
    case r1 =>
     refine' n_scons (r_asg (n_bin .FloorDiv (n_bin .Add (r_var 1) n_int) n_int) (r_gn g 2)) ?r2
     case r2 =>
      refine' n_scons (n_ret (n_tup (r_cons (r_var 1) (r_cons (n_bin .Add (r_var 2) (r_call g C__law_any (r_cons (r_var 0) (r_cons (n_bin .Sub (r_var 1) (r_var 2)) n_nil)))) n_nil)))) ?r3
      case r3 =>
       exact n_snil
  case rest =>
    rintro ds Q E' ⟨rfl, hq⟩ _
    have two : 2 ≤ sizeLine := by decide
    refine ⟨(by decide : 8 ≤ sizeLine), rfl, _, rfl, by simp, by decide, fun x hx => ?_⟩
    obtain ⟨b, rfl, b2, b10⟩ : ∃ b : Nat, x = .int b ∧ 2 ≤ b ∧ b ≤ 10 := by
      simp only [List.mem_cons, List.not_mem_nil, or_false] at hx
      rcases hx with h | h | h | h | h | h | h | h
      · exact ⟨2, h, by decide, by decide⟩
      · exact ⟨2, h, by decide, by decide⟩
      · exact ⟨3, h, by decide, by decide⟩
      · exact ⟨3, h, by decide, by decide⟩
      · exact ⟨4, h, by decide, by decide⟩
      · exact ⟨5, h, by decide, by decide⟩
      · exact ⟨7, h, by decide, by decide⟩
      · exact ⟨10, h, by decide, by decide⟩
    have el : ((b : Int) + 1).fdiv 2 = (((b + 1) / 2 : Nat) : Int) := fdiv_nat (b + 1) 2
    refine ⟨divOk_small (by decide) (by decide), rfl, _, rfl, ?_, ?_, fun r r0 r1 => ⟨two, ?_⟩⟩
    · rw [el]; omega
    · rw [el]; exact log_small (by omega)
    · rw [el] at r1 ⊢
      obtain ⟨k, rfl⟩ := Int.eq_ofNat_of_zero_le r0
      have := hq b ((b + 1) / 2 + k) b2 b10 (by omega) (by omega)
      rw [Int.natCast_add] at this
      exact this

theorem sc__law_digit : FnScope ["deal", "most"] ["deal", "most"] (defScope (top 17)) := ⟨rfl, rfl, rfl, by decide +kernel, rfl, by decide +kernel, by decide +kernel⟩
theorem ok__law_digit {P : Program} {w : World} {K : PySem.W.Frag} {mg : Str → Option Value} {base : Heap} {f : Addr} {fd : FuncData} (F : Fun K "_law_digit" "_law_digit" (top 17) f fd) (C__law_any : CalD P w K mg base 1 "_law_any" ["deal", "bound"] (top 11) S_any) :
    FnOk P w K mg base (L2.CX P w) 2 f fd ["deal", "most"] (liftSp K mg 2 S__law_digit) := by
  refine ok_defG (k := 1) (N := ["deal", "most"]) F sc__law_digit fun _ _ cdv A outer s H E _ _ g hp => ?_
  refine' ⟨_, ?walk, ?rest⟩
  case walk =>
    refine' n_scons (n_ret (n_bin .Sub (r_call g C__law_any (r_cons (r_var 0) (r_cons (n_bin .Add (n_bin .Mult n_int (r_var 1)) n_int) n_nil))) (r_var 1))) ?r1
    case r1 =>
     exact n_snil
  case rest =>
    rintro ds Q E' ⟨m, rfl, hm, hq⟩ _
    refine ⟨mulOk_small (by decide) (by omega), rfl, _, rfl, by omega, log_small (by omega), fun r r0 r1 => ?_⟩
    exact hq _ (by omega) (by omega)

theorem sc__law_digits : FnScope ["deal", "most", "many", "turn"] ["deal", "most", "many"] (defScope (top 18)) := ⟨rfl, rfl, rfl, by decide +kernel, rfl, by decide +kernel, by decide +kernel⟩
theorem ok__law_digits {P : Program} {w : World} {K : PySem.W.Frag} {mg : Str → Option Value} {base : Heap} {f : Addr} {fd : FuncData} (F : Fun K "_law_digits" "_law_digits" (top 18) f fd) (b_range : mg "range" = none) (b_tuple : mg "tuple" = none) (C__law_digit : CalD P w K mg base 2 "_law_digit" ["deal", "most"] (top 17) S__law_digit) :
    FnOk P w K mg base (L2.CX P w) 3 f fd ["deal", "most", "many"] (liftSp K mg 3 S__law_digits) := by
  refine ok_defG (k := 2) (N := ["deal", "most", "many", "turn"]) F sc__law_digits fun _ _ cdv A outer s H E _ _ g hp => ?_
  refine' ⟨_, ?walk, ?rest⟩
  case walk =>
    refine' n_scons (n_ret (r_tupleOf g b_tuple (r_cons (r_lc g false (.one 3) [("turn", 3)] (r_range1 g b_range (r_cons (r_var 2) n_nil)) (fun _ _ _ _ _ g1 => ⟨(r_tg1 g1 3), r_ifs0, (r_call g1 C__law_digit (r_cons (r_var 0) (r_cons (r_var 1) n_nil)))⟩)) n_nil))) ?r1
    case r1 =>
     exact n_snil
  case rest =>
    rintro ds Q E' ⟨m, k, rfl, hm, hk, hq⟩ _
    refine ⟨⟨by omega, by omega⟩, ?_⟩
    refine compL_run (fun d o => ∃ x : Int, o = some (.int x) ∧ (-(m : Int) ≤ x ∧ x ≤ m)) trivial (by rw [len_range]; simp; exact Nat.le_trans hk (by decide)) (fun d hd C Pp c hP => ?_) fun ys hy => ?_
    · exact ⟨rfl, fun _ => ⟨rfl, m, rfl, hm, fun x x0 x1 => ⟨rfl, c, hP _ ⟨x, rfl, x0, x1⟩⟩⟩, fun z => (by cases z)⟩
    · obtain ⟨xs, rfl, l, q⟩ := outs_ints hy
      exact ⟨_, rfl, hq xs (by rw [l, len_range]; simp) q⟩

theorem sc__law_row : FnScope ["deal", "most", "head", "loop", "ahead", "around"] ["deal", "most", "head", "loop"] (defScope (top 19)) := ⟨rfl, rfl, rfl, by decide +kernel, rfl, by decide +kernel, by decide +kernel⟩
theorem ok__law_row {P : Program} {w : World} {K : PySem.W.Frag} {mg : Str → Option Value} {base : Heap} {f : Addr} {fd : FuncData} (F : Fun K "_law_row" "_law_row" (top 19) f fd) (C__law_any : CalD P w K mg base 1 "_law_any" ["deal", "bound"] (top 11) S_any) (C__law_digits : CalD P w K mg base 3 "_law_digits" ["deal", "most", "many"] (top 18) S__law_digits) :
    FnOk P w K mg base (L2.CX P w) 4 f fd ["deal", "most", "head", "loop"] (liftSp K mg 4 S__law_row) := by
  refine ok_defG (k := 3) (N := ["deal", "most", "head", "loop", "ahead", "around"]) F sc__law_row fun _ _ cdv A outer s H E _ _ g hp => ?_
  refine' ⟨_, ?walk, ?rest⟩
  case walk =>
    refine' n_scons (r_par g 4 5 (r_cons (r_call g C__law_any (r_cons (r_var 0) (r_cons (n_bin .Add (r_var 2) n_int) n_nil))) (r_cons (n_bin .Add n_int (r_call g C__law_any (r_cons (r_var 0) (r_cons (r_var 3) n_nil)))) n_nil))) ?r1
    case r1 =>
     refine' n_scons (n_ret (n_tup (r_cons (r_call g C__law_digits (r_cons (r_var 0) (r_cons (r_var 1) (r_cons (r_var 4) n_nil)))) (r_cons (r_call g C__law_digits (r_cons (r_var 0) (r_cons (r_var 1) (r_cons (r_var 5) n_nil)))) n_nil)))) ?r2
     case r2 =>
      exact n_snil
  case rest =>
    rintro ds Q E' ⟨m, a, b, rfl, hm, ha, hb, hb2, hq⟩ _
    have two : 2 ≤ sizeLine := by decide
    refine ⟨rfl, _, rfl, by omega, log_small (by omega), fun r r0 r1 => ?_⟩
    obtain ⟨r, rfl⟩ := Int.eq_ofNat_of_zero_le r0
    refine ⟨rfl, _, rfl, by omega, log_small (by omega), fun s s0 s1 => ?_⟩
    obtain ⟨s, rfl⟩ := Int.eq_ofNat_of_zero_le s0
    refine ⟨rfl, m, r, rfl, hm, by omega, fun xs l1 q1 => ?_⟩
    refine ⟨rfl, m, 1 + s, by rw [Int.natCast_add]; rfl, hm, by omega, fun ys l2 q2 => ?_⟩
    exact ⟨two, hq xs ys (by omega) (by omega) (by omega) fun x hx => (List.mem_append.mp hx).elim (q1 x) (q2 x)⟩

theorem sc__law_place : FnScope ["row", "place", "head", "loop"] ["row", "place"] (defScope (top 20)) := ⟨rfl, rfl, rfl, by decide +kernel, rfl, by decide +kernel, by decide +kernel⟩
theorem ok__law_place {P : Program} {w : World} {K : PySem.W.Frag} {mg : Str → Option Value} {base : Heap} {f : Addr} {fd : FuncData} (F : Fun K "_law_place" "_law_place" (top 20) f fd) (b_len : mg "len" = none) :
    FnOk P w K mg base (L2.CX P w) 1 f fd ["row", "place"] (liftSp K mg 2 S_thing_at) := by
  refine ok_defG (k := 0) (N := ["row", "place", "head", "loop"]) F sc__law_place fun _ _ cdv A outer s H E _ _ g hp => ?_
  refine' ⟨_, ?walk, ?rest⟩
  case walk =>
    refine' n_scons (r_asg (r_var 0) (r_gseq g 2 (r_gcons (r_gn g 2) (r_gcons (r_gn g 3) n_gnil)))) ?r1
    case r1 =>
     refine' n_scons (n_ret (n_ifx (r_tcmp g .Lt (r_var 1) (r_len g b_len (r_cons (r_var 2) n_nil))) (r_ix (r_var 2) (r_var 1)) (r_ix (r_var 3) (n_bin .Mod (n_bin .Sub (r_var 1) (r_len g b_len (r_cons (r_var 2) n_nil))) (r_len g b_len (r_cons (r_var 3) n_nil)))))) ?r2
     case r2 =>
      exact n_snil
  case rest =>
    rintro ds Q E' ⟨h, l, p, rfl, hl, hq⟩ _
    have hpos : 0 < l.length := List.length_pos_iff.mpr hl
    refine ⟨_, rfl, rfl, ?_⟩
    refine ⟨_, rfl, fun hlt => ?_, fun hlt => ?_⟩
    · have hlt : p < h.length := by simpa using hlt
      refine ⟨_, rfl, _, atI_ints rfl hlt, ?_⟩
      rw [← rowAt_head hlt]
      exact hq
    · have hge : h.length ≤ p := by simpa using hlt
      have e : ((p : Int) - ((h.map D.int).length : Int)).fmod ((l.map D.int).length : Int) = (((p - h.length) % l.length : Nat) : Int) := by
        rw [List.length_map, List.length_map, Int.fmod_eq_emod_of_nonneg _ (by omega), show (p : Int) - (h.length : Int) = ((p - h.length : Nat) : Int) by omega, ← Int.natCast_emod]
      refine ⟨_, rfl, _, rfl, by show ((l.map D.int).length : Int) ≠ 0; rw [List.length_map]; omega, _, rfl, _, atI_ints e (Nat.mod_lt _ hpos), ?_⟩
      have e2 : rowAt h l p = l.getD ((p - h.length) % l.length) 0 := if_neg (by omega)
      rw [← e2]
      exact hq

theorem sc__law_many : FnScope ["row", "many", "place"] ["row", "many"] (defScope (top 21)) := ⟨rfl, rfl, rfl, by decide +kernel, rfl, by decide +kernel, by decide +kernel⟩
theorem ok__law_many {P : Program} {w : World} {K : PySem.W.Frag} {mg : Str → Option Value} {base : Heap} {f : Addr} {fd : FuncData} (F : Fun K "_law_many" "_law_many" (top 21) f fd) (b_range : mg "range" = none) (b_tuple : mg "tuple" = none) (C__law_place : CalD P w K mg base 1 "_law_place" ["row", "place"] (top 20) S_thing_at) :
    FnOk P w K mg base (L2.CX P w) 2 f fd ["row", "many"] (liftSp K mg 2 S_beginning) := by
  refine ok_defG (k := 1) (N := ["row", "many", "place"]) F sc__law_many fun _ _ cdv A outer s H E _ _ g hp => ?_
  refine' ⟨_, ?walk, ?rest⟩
  case walk =>
    refine' n_scons (n_ret (r_tupleOf g b_tuple (r_cons (r_lc g false (.one 2) [("place", 2)] (r_range1 g b_range (r_cons (r_var 1) n_nil)) (fun _ _ _ _ _ g1 => ⟨(r_tg1 g1 2), r_ifs0, (r_call g1 C__law_place (r_cons (r_var 0) (r_cons (r_var 2) n_nil)))⟩)) n_nil))) ?r1
    case r1 =>
     exact n_snil
  case rest =>
    rintro ds Q E' ⟨h, l, m, rfl, hl, hm, hq⟩ _
    refine ⟨⟨by omega, by omega⟩, ?_⟩
    refine compL_run (fun d o => o = some (fInt (fun i => .int (rowAt h l i.toNat)) d)) trivial (by rw [len_range]; simp; exact Nat.le_trans hm (by decide)) (fun d hd C Pp c hP => ?_) fun ys hy => ?_
    · obtain ⟨i, rfl, i0, i1⟩ := mem_range hd
      obtain ⟨i, rfl⟩ := Int.eq_ofNat_of_zero_le i0
      exact ⟨rfl, fun _ => ⟨rfl, h, l, i, rfl, hl, rfl, c, hP _ rfl⟩, fun z => (by cases z)⟩
    · rw [hy.map, map_range]
      refine ⟨_, rfl, ?_⟩
      have e : (List.map (fun i : Nat => D.int (rowAt h l (i : Int).toNat)) (List.range m)) = ((List.range m).map (rowAt h l)).map D.int := by simp [List.map_map, Function.comp_def]
      rw [List.nil_append, e]
      exact hq

theorem sc__law_plain : FnScope ["row", "head", "loop", "many"] ["row"] (defScope (top 22)) := ⟨rfl, rfl, rfl, by decide +kernel, rfl, by decide +kernel, by decide +kernel⟩
theorem ok__law_plain {P : Program} {w : World} {K : PySem.W.Frag} {mg : Str → Option Value} {base : Heap} {f : Addr} {fd : FuncData} (F : Fun K "_law_plain" "_law_plain" (top 22) f fd) (b_int : mg "int" = none) (b_len : mg "len" = none) (b_range : mg "range" = none) :
    FnOk P w K mg base (L2.CX P w) 1 f fd ["row"] (liftSp K mg 1 S_plain_row) := by
  refine ok_defG (k := 0) (N := ["row", "head", "loop", "many"]) F sc__law_plain fun _ _ cdv A outer s H E _ _ g hp => ?_
  refine' ⟨_, ?walk, ?rest⟩
  case walk =>
    refine' n_scons (r_asg (r_var 0) (r_gseq g 2 (r_gcons (r_gn g 1) (r_gcons (r_gn g 2) n_gnil)))) ?r1
    case r1 =>
     refine' n_scons (r_for g hp (r_range2 g b_range (r_cons n_int (r_cons (n_bin .Add (r_len g b_len (r_cons (r_var 2) n_nil)) n_int) n_nil))) (r_gn g 3) ?a2) ?r2
     case a2 =>
       refine' n_scons (n_if (n_and (r_tcmp g .Eq (n_bin .Mod (r_int g b_int (r_cons (r_len g b_len (r_cons (r_var 2) n_nil)) n_nil)) (r_var 3)) n_int) (n_and1 (r_tcmp g .Eq (n_bin .Mult (n_sl (r_var 2) n_o0 (n_o1 (r_var 3))) (n_bin .FloorDiv (r_len g b_len (r_cons (r_var 2) n_nil)) (r_var 3))) (r_var 2)))).pt ?a3 ?b3) ?r3
       case a3 =>
         refine' n_scons (r_asg (n_sl (r_var 2) n_o0 (n_o1 (r_var 3))) (r_gn g 2)) ?r4
         case r4 =>
          refine' n_scons n_break ?r5
          case r5 =>
           exact n_snil
       case b3 =>
         exact n_snil
       case r3 =>
        exact n_snil
     case r2 =>
      refine' n_scons (r_while hp (n_and (r_tcmp g .Gt (r_len g b_len (r_cons (r_var 1) n_nil)) n_int) (n_and1 (r_tcmp g .Eq (r_ix (r_var 1) (r_neg n_int)) (r_ix (r_var 2) (r_neg n_int))))).pt ?a6) ?r6
      case a6 =>
        refine' n_scons (r_par g 1 2 (r_cons (n_sl (r_var 1) n_o0 (n_o1 (r_neg n_int))) (r_cons (n_bin .Add (n_sl (r_var 2) (n_o1 (r_neg n_int)) n_o0) (n_sl (r_var 2) n_o0 (n_o1 (r_neg n_int)))) n_nil))) ?r7
        case r7 =>
         exact n_snil
      case r6 =>
       refine' n_scons (n_ret (n_tup (r_cons (r_var 1) (r_cons (r_var 2) n_nil)))) ?r8
       case r8 =>
        exact n_snil
  case rest =>
      rintro ds Q E' ⟨h, l, rfl, hl, hz, hq⟩ _
      have hpos : 0 < l.length := List.length_pos_iff.mpr hl
      refine seqS_cut (fun env st => env = [some (.dat (rowD h l)), some (.dat (intsD h)), some (.dat (intsD l)), none] ∧ st = []) (fun nx hnx => ⟨_, rfl, rfl, hnx _ _ ⟨rfl, rfl⟩⟩) ?_
      rintro env st ⟨rfl, rfl⟩
      refine seqS_cut (fun env st => ∃ l1 x, env = [some (.dat (rowD h l)), some (.dat (intsD h)), some (.dat (intsD l1)), x] ∧ st = [] ∧ Short l l1) (fun nx hnx => ?_) ?_
      · refine ⟨_, rfl, ⟨by omega, by omega⟩, ⟨by rw [List.length_map]; omega, by rw [List.length_map]; omega⟩, ?_⟩
        refine forL_run (fun items env st => ∃ (a : Nat) (x : Option Va), items = rangeD a ((l.length : Int) + 1) ∧ 1 ≤ a ∧ a ≤ l.length + 1 ∧ env = [some (.dat (rowD h l)), some (.dat (intsD h)), some (.dat (intsD l)), x] ∧ st = [] ∧ ∀ k, 0 < k → k < a → k ∣ l.length → ¬ Rpt l k) ?_ ?_ ⟨1, none, by rw [List.length_map]; rfl, Nat.le_refl _, by omega, rfl, rfl, fun k h1 h2 => by omega⟩
        · rintro env st ⟨a, x, hi, h1, h2, rfl, rfl, hm⟩
          have ea : a = l.length + 1 := by
            rcases Nat.lt_or_ge a (l.length + 1) with z | z
            · rw [range_cons (by omega)] at hi
              cases hi
            · omega
          exact absurd (fun i hi => by rw [Nat.mod_eq_of_lt hi]) (hm l.length hpos (by omega) (Nat.dvd_refl _))
        · rintro F d ds env st ⟨a, x, hi, h1, h2', rfl, rfl, hm⟩ ih
          have h2 : a ≤ l.length := by
            rcases Nat.lt_or_ge a (l.length + 1) with z | z
            · omega
            · rw [range_nil (by omega)] at hi
              cases hi
          rw [range_cons (by omega)] at hi
          obtain ⟨rfl, rfl⟩ := List.cons.inj hi
          have d1 : eqvD (.int (((l.map D.int).length : Int).fmod (a : Int))) (.int 0) = decide (a ∣ l.length) := by
            rw [eqv_int, List.length_map, fmod_nat, Bool.eq_iff_iff, decide_eq_true_iff, beq_iff_eq]
            constructor
            · intro z; exact Nat.dvd_of_mod_eq_zero (by omega)
            · intro z; rw [Nat.mod_eq_zero_of_dvd z]; rfl
          have k1 : ∀ z : a ∣ l.length, 1 ≤ l.length / a ∧ l.length / a ≤ 1000 := fun z => ⟨Nat.div_pos (Nat.le_of_dvd hpos z) h1, Nat.le_trans (Nat.div_le_self _ _) hz⟩
          have rp : ∀ z : a ∣ l.length, eqvD (.tup (List.replicate (((l.map D.int).length : Int).fdiv (a : Int)).toNat (cutD (l.map D.int) none (some (a : Int)))).flatten) (intsD l) = decide (Rpt l a) := fun z => by
            rw [List.length_map, fdiv_nat, Int.toNat_natCast, cut_map, cut_to, rep_map, ints_eqv, Bool.eq_iff_iff, decide_eq_true_iff, decide_eq_true_iff]
            exact rpt_iff h1 h2 z
          have kk : ((l.map D.int).length : Int).fdiv (a : Int) = ((l.length / a : Nat) : Int) := by rw [List.length_map, fdiv_nat]
          have next : ¬ (a ∣ l.length ∧ Rpt l a) → ∀ x, F (rangeD ((a : Int) + 1) ((l.length : Int) + 1)) [some (.dat (rowD h l)), some (.dat (intsD h)), some (.dat (intsD l)), x] [] := fun z x => ih _ _ ⟨a + 1, x, rfl, by omega, by omega, rfl, rfl, fun k k1 k2 k3 k4 => by
            rcases Nat.lt_or_ge k a with q | q
            · exact hm k k1 q k3 k4
            · have : k = a := by omega
              subst this
              exact z ⟨k3, k4⟩⟩
          refine ⟨trivial, _, rfl, by show (a : Int) ≠ 0; omega, rfl, fun t1 => ?_, fun t1 => ⟨fun z => (nomatch z), fun _ => next (fun z => ?_) _⟩⟩
          · have dv : a ∣ l.length := of_decide_eq_true (d1.symm.trans t1)
            obtain ⟨q1, q2⟩ := k1 dv
            refine ⟨_, rfl, divOk_nat h1 (by omega), ?_, ?_, ?_, ?_, ?_, fun t2 => ?_, fun t2 => ?_⟩
            · rw [cut_map, cut_to]
              intro z
              have := congrArg List.length z
              rw [List.length_map, List.length_take, List.length_nil] at this
              omega
            · rw [kk]; omega
            · rw [kk]; omega
            · rw [cut_map, cut_to, List.length_map, List.length_take]; omega
            · rw [cut_map, rep_map, ints_ok, ints_ok]; rfl
            · have rt : Rpt l a := of_decide_eq_true ((rp dv).symm.trans t2)
              refine hnx _ _ ⟨l.take a, some (.dat (.int a)), ?_, rfl, short_of h1 h2 dv rt hm⟩
              show [_, _, some (Va.dat (.tup (cutD (l.map D.int) none (some (a : Int))))), _] = _
              rw [cut_map, cut_to]
            · refine next (fun z => ?_) _
              exact absurd z.2 (of_decide_eq_false ((rp dv).symm.trans t2))
          · exact absurd z.1 (of_decide_eq_false (d1.symm.trans t1))
      rintro env st ⟨l1, xo, rfl, rfl, s1⟩
      refine ⟨fun m env st => ∃ (a b : List Int), env = [some (.dat (rowD h l)), some (.dat (intsD a)), some (.dat (intsD b)), xo] ∧ st = [] ∧ b ≠ [] ∧ Prim b ∧ b.length ≤ l.length ∧ a.length = m ∧ a.length ≤ h.length ∧ ∀ n, rowAt a b n = rowAt h l n, ⟨_, h, l1, rfl, rfl, s1.1, s1.2.1, s1.2.2.1, rfl, Nat.le_refl _, fun n => short_row s1 n⟩, ?_⟩
      rintro m env st ⟨a, b, rfl, rfl, b1, b2, b3, rfl, b5, b6⟩
      have two : 2 ≤ sizeLine := by decide
      refine ⟨_, rfl, fun t1 => ?_, fun t1 => ⟨fun z => (nomatch z), fun _ => ⟨two, hq a b ⟨b1, b2, fun w e1 _ => ?_⟩ b6 b5 b3⟩⟩⟩
      rotate_left
      · have : a = [] := by
          cases a with
          | nil => rfl
          | cons _ _ => exact absurd t1 (by simp)
        rw [this] at e1
        cases e1
      have an : a ≠ [] := fun e => by
        subst e
        exact absurd t1 (by simp)
      obtain ⟨a0, x, rfl⟩ := list_last an
      obtain ⟨b0, y, rfl⟩ := list_last b1
      refine ⟨_, rfl, .int x, by rw [List.map_append]; exact atI_last, _, rfl, .int y, by rw [List.map_append]; exact atI_last, rfl, fun t2 => ?_, fun t2 => ⟨two, hq _ _ ⟨b1, b2, fun w e1 e2 => ?_⟩ b6 b5 b3⟩⟩
      · have xy : x = y := eq_of_beq (show (x == y) = true from t2)
        subst xy
        have c1 : cutD ((a0 ++ [x]).map D.int) none (some (-1)) = a0.map D.int := by rw [cut_map, cut_init]
        have c2 : cutD ((b0 ++ [x]).map D.int) (some (-1)) none = [x].map D.int := by rw [cut_map, cut_end]
        have c3 : cutD ((b0 ++ [x]).map D.int) none (some (-1)) = b0.map D.int := by rw [cut_map, cut_init]
        have bl : b0.length + 1 ≤ l.length := by simpa using b3
        refine ⟨?_, a0.length, by simp, a0, x :: b0, ?_, rfl, by simp, prim_rot b2, by simpa using bl, rfl, by simp at b5; omega, fun n => ?_⟩
        · rw [c2, c3, List.length_map, List.length_map]
          exact Nat.le_trans (show [x].length + b0.length ≤ 1001 by simp; omega) (by decide)
        · show [_, some (Va.dat (.tup (cutD ((a0 ++ [x]).map D.int) none (some (-1))))), some (Va.dat (.tup (cutD ((b0 ++ [x]).map D.int) (some (-1)) none ++ cutD ((b0 ++ [x]).map D.int) none (some (-1))))), xo] = _
          rw [c1, c2, c3]
          rfl
        · rw [← turn_row, b6]
      · rw [List.getLast?_concat] at e1 e2
        rw [Option.some.inj e1, Option.some.inj e2] at t2
        have t2 : (w == w) = false := t2
        rw [beq_self_eq_true] at t2
        cases t2

theorem sc__law_is_pair : FnScope ["reply"] ["reply"] (defScope (top 23)) := ⟨rfl, rfl, rfl, by decide +kernel, rfl, by decide +kernel, by decide +kernel⟩
theorem ok__law_is_pair {P : Program} {w : World} {K : PySem.W.Frag} {mg : Str → Option Value} {base : Heap} {f : Addr} {fd : FuncData} (F : Fun K "_law_is_pair" "_law_is_pair" (top 23) f fd) (b_isinstance : mg "isinstance" = none) (b_len : mg "len" = none) (b_tuple : mg "tuple" = none) :
    FnOk P w K mg base (L2.CX P w) 1 f fd ["reply"] (liftSp K mg 1 S__law_is_pair) := by
  refine ok_defG (k := 0) (N := ["reply"]) F sc__law_is_pair fun _ _ cdv A outer s H E _ _ g hp => ?_
  refine' ⟨_, ?walk, ?rest⟩
  case walk =>
    refine' n_scons (n_ret (n_vand (r_isi g "tuple" b_isinstance b_tuple (r_var 0) PyProof.Rows.boot_tuple) (n_vone (r_cmp g .Eq (r_len g b_len (r_cons (r_var 0) n_nil)) n_int)))) ?r1
    case r1 =>
     exact n_snil
  case rest =>
    rintro ds Q E' ⟨a, b, rfl, hq⟩ _
    exact ⟨true, (show kitAnyB "tuple" ["tuple"] = some true by decide +kernel), fun _ => ⟨_, rfl, rfl, hq⟩, fun z => (by cases z)⟩

theorem sc__law_told_otherwise : FnScope ["deal", "row", "head", "loop", "turn", "times"] ["deal", "row"] (defScope (top 24)) := ⟨rfl, rfl, rfl, by decide +kernel, rfl, by decide +kernel, by decide +kernel⟩
theorem ok__law_told_otherwise {P : Program} {w : World} {K : PySem.W.Frag} {mg : Str → Option Value} {base : Heap} {f : Addr} {fd : FuncData} (F : Fun K "_law_told_otherwise" "_law_told_otherwise" (top 24) f fd) (b_len : mg "len" = none) (b_max : mg "max" = none) (b_range : mg "range" = none) (C__law_any : CalD P w K mg base 1 "_law_any" ["deal", "bound"] (top 11) S_any) :
    FnOk P w K mg base (L2.CX P w) 2 f fd ["deal", "row"] (liftSp K mg 2 S__law_told_otherwise) := by
  refine ok_defG (k := 1) (N := ["deal", "row", "head", "loop", "turn", "times"]) F sc__law_told_otherwise fun _ _ cdv A outer s H E _ _ g hp => ?_
  refine' ⟨_, ?walk, ?rest⟩
  case walk =>
    refine' n_scons (r_asg (r_var 1) (r_gseq g 2 (r_gcons (r_gn g 2) (r_gcons (r_gn g 3) n_gnil)))) ?r1
    case r1 =>
     refine' n_scons (r_for g hp (r_range1 g b_range (r_cons (r_call g C__law_any (r_cons (r_var 0) (r_cons n_int n_nil))) n_nil)) (r_gn g 4) ?a2) ?r2
     case a2 =>
       refine' n_scons (r_par g 2 3 (r_cons (n_bin .Add (r_var 2) (n_sl (r_var 3) n_o0 (n_o1 n_int))) (r_cons (n_bin .Add (n_sl (r_var 3) (n_o1 n_int) n_o0) (n_sl (r_var 3) n_o0 (n_o1 n_int))) n_nil))) ?r3
       case r3 =>
        exact n_snil
     case r2 =>
      refine' n_scons (r_asg (n_bin .Add n_int (r_call g C__law_any (r_cons (r_var 0) (r_cons (r_max g b_max (r_cons n_int (r_cons (n_bin .FloorDiv n_int (r_len g b_len (r_cons (r_var 3) n_nil))) n_nil))) n_nil)))) (r_gn g 5)) ?r4
      case r4 =>
       refine' n_scons (n_ret (n_ifx (r_tcmp g .LtE (r_len g b_len (r_cons (r_var 2) n_nil)) n_int) (n_tup (r_cons (r_var 2) (r_cons (n_bin .Mult (r_var 3) (r_var 5)) n_nil))) (r_var 1))) ?r5
       case r5 =>
        exact n_snil
  case rest =>
    rintro ds Q E' ⟨h, l, rfl, hl, z, zh, hq⟩ _
    have two : 2 ≤ sizeLine := by decide
    have big : 1000 ≤ sizeLine := by decide
    refine seqS_cut (fun env st => env = [some (.dat .deal), some (.dat (rowD h l)), some (.dat (intsD h)), some (.dat (intsD l)), none, none] ∧ st = []) (fun nx hnx => ⟨_, rfl, rfl, hnx _ _ ⟨rfl, rfl⟩⟩) ?_
    rintro env st ⟨rfl, rfl⟩
    refine seqS_cut (fun env st => ∃ a b x, env = [some (.dat .deal), some (.dat (rowD h l)), some (.dat (intsD a)), some (.dat (intsD b)), x, none] ∧ st = [] ∧ b ≠ [] ∧ b.length = l.length ∧ a.length ≤ 104 ∧ ∀ n, rowAt a b n = rowAt h l n) (fun nx hnx => ?_) ?_
    · refine ⟨rfl, _, rfl, by decide, by decide, fun r r0 r1 => ⟨⟨by omega, by omega⟩, ?_⟩⟩
      refine forL_run (fun items env st => ∃ a b x, env = [some (.dat .deal), some (.dat (rowD h l)), some (.dat (intsD a)), some (.dat (intsD b)), x, none] ∧ st = [] ∧ b ≠ [] ∧ b.length = l.length ∧ a.length + items.length ≤ 104 ∧ ∀ n, rowAt a b n = rowAt h l n) ?_ ?_ ⟨h, l, none, rfl, rfl, hl, rfl, by rw [len_range]; omega, fun n => rfl⟩
      · rintro env st ⟨a, b, x, rfl, rfl, b1, b2, b3, b4⟩
        exact ⟨trivial, hnx _ _ ⟨a, b, x, rfl, rfl, b1, b2, by simpa using b3, b4⟩⟩
      · rintro F d ds env st ⟨a, b, x, rfl, rfl, b1, b2, b3, b4⟩ ih
        obtain ⟨y, b0, rfl⟩ : ∃ y b0, b = y :: b0 := by
          cases b with
          | nil => exact absurd rfl b1
          | cons y b0 => exact ⟨y, b0, rfl⟩
        have c1 : cutD ((y :: b0).map D.int) none (some 1) = [y].map D.int := by rw [cut_map, show (1 : Int) = ((1 : Nat) : Int) from rfl, cut_to]; rfl
        have c2 : cutD ((y :: b0).map D.int) (some 1) none = b0.map D.int := by rw [cut_map, show (1 : Int) = ((1 : Nat) : Int) from rfl, cut_from]; rfl
        have bl : b0.length + 1 = l.length := by simpa using b2
        have al : a.length + (ds.length + 1) ≤ 104 := b3
        refine ⟨trivial, ?_, ?_, ih _ _ ⟨a ++ [y], b0 ++ [y], some (.dat d), ?_, rfl, by simp, by simpa using b2, by simp; omega, fun n => by rw [turn_row, b4]⟩⟩
        · rw [c1, List.length_map, List.length_map]
          exact Nat.le_trans (by simp; omega) big
        · rw [c1, c2, List.length_map, List.length_map]
          exact Nat.le_trans (by simp; omega) big
        · show [_, _, some (Va.dat (.tup (a.map D.int ++ cutD ((y :: b0).map D.int) none (some 1)))), some (Va.dat (.tup (cutD ((y :: b0).map D.int) (some 1) none ++ cutD ((y :: b0).map D.int) none (some 1)))), _, _] = _
          rw [c1, c2, ← List.map_append, ← List.map_append]
    · rintro env st ⟨a, b, x, rfl, rfl, b1, b2, b3, b4⟩
      have hp := List.length_pos_iff.mpr b1
      have e12 : (12 : Int).fdiv ((b.map D.int).length : Int) = ((12 / b.length : Nat) : Int) := by rw [List.length_map]; exact fdiv_nat 12 _
      have q12 : 12 / b.length * b.length ≤ 12 := Nat.div_mul_le_self _ _
      have q13 : 12 / b.length ≤ 12 := Nat.div_le_self _ _
      obtain ⟨n, hn⟩ : ∃ n : Int, n = if (12 : Int).fdiv ((b.map D.int).length : Int) > 1 then (12 : Int).fdiv ((b.map D.int).length : Int) else 1 := ⟨_, rfl⟩
      have n1 : 1 ≤ n ∧ n ≤ 12 := by
        rw [hn, e12]
        split <;> omega
      have fin : ∀ r : Int, 0 ≤ r → r < n → ∃ k : Nat, 1 + r = k ∧ 1 ≤ k ∧ k ≤ 12 := fun r r0 r1 => ⟨(1 + r).toNat, by omega, by omega, by omega⟩
      refine ⟨_, rfl, by rw [List.length_map]; exact divOk_nat hp (by omega), trivial, rfl, n, by rw [hn], n1.1, log_small (by omega), fun r r0 r1 => ?_⟩
      obtain ⟨k, ek, k1, k2⟩ := fin r r0 r1
      refine ⟨_, rfl, fun t => ?_, fun t => hq h l hl (by omega) (by omega) fun _ => rfl⟩
      refine ⟨?_, by rw [ek]; omega, by rw [ek]; omega, by rw [List.length_map]; omega, two, ?_⟩
      · intro e
        have := congrArg List.length e
        rw [List.length_map, List.length_nil] at this
        omega
      · have hf : (List.replicate k b).flatten.length ≤ 144 := by
          rw [flat_len]
          exact Nat.le_trans (Nat.mul_le_mul k2 (by omega : b.length ≤ 12)) (by decide)
        have := hq a (List.replicate k b).flatten (fun e => by
          have := congrArg List.length e
          rw [flat_len, List.length_nil] at this
          have := Nat.mul_pos k1 hp
          omega) (by omega) (by omega) fun n => by rw [row_times b1 k1, b4]
        rw [ek, Int.toNat_natCast, rep_map]
        exact this

theorem sc_law : FnScope ["script", "deal", "pairs", "turn", "base", "most", "row", "other", "forms", "form", "are_one", "place", "many", "behind", "word", "ahead"] ["script"] (defScope (top 25)) := ⟨rfl, rfl, rfl, by decide +kernel, rfl, by decide +kernel, by decide +kernel⟩
theorem ok_law {P : Program} {w : World} {K : PySem.W.Frag} {mg : Str → Option Value} {base : Heap} {f : Addr} {fd : FuncData} (F : Fun K "law" "law" (top 25) f fd) (b_len : mg "len" = none) (b_range : mg "range" = none) (b_tuple : mg "tuple" = none) (C_digit_at : CalD P w K mg base 2 "digit_at" ["row", "place"] (top 2) S_thing_at) (C_beginning : CalD P w K mg base 2 "beginning" ["row", "many"] (top 3) S_beginning) (C_plain_row : CalD P w K mg base 2 "plain_row" ["row"] (top 5) S_plain_row) (C_same_row : CalD P w K mg base 3 "same_row" ["one", "other"] (top 6) S_same_row) (C_later : CalD P w K mg base 3 "later" ["row", "many"] (top 7) S_later) (C_put_ahead : CalD P w K mg base 3 "put_ahead" ["word", "row"] (top 8) S_put_ahead) (C__law_deal : CalD P w K mg base 1 "_law_deal" ["script", "salt"] (top 10) S_deal) (C__law_any : CalD P w K mg base 1 "_law_any" ["deal", "bound"] (top 11) S_any) (C__law_all : CalD P w K mg base 3 "_law_all" ["pairs"] (top 15) S__law_all) (C__law_scale : CalD P w K mg base 3 "_law_scale" ["deal"] (top 16) S__law_scale) (C__law_digits : CalD P w K mg base 3 "_law_digits" ["deal", "most", "many"] (top 18) S__law_digits) (C__law_row : CalD P w K mg base 4 "_law_row" ["deal", "most", "head", "loop"] (top 19) S__law_row) (C__law_place : CalD P w K mg base 1 "_law_place" ["row", "place"] (top 20) S_thing_at) (C__law_many : CalD P w K mg base 2 "_law_many" ["row", "many"] (top 21) S_beginning) (C__law_plain : CalD P w K mg base 1 "_law_plain" ["row"] (top 22) S_plain_row) (C__law_is_pair : CalD P w K mg base 1 "_law_is_pair" ["reply"] (top 23) S__law_is_pair) (C__law_told_otherwise : CalD P w K mg base 2 "_law_told_otherwise" ["deal", "row"] (top 24) S__law_told_otherwise) :
    FnOk P w K mg base (L2.CX P w) 5 f fd ["script"] (liftSp K mg 1 S_law) := by
  refine ok_defG (k := 4) (N := ["script", "deal", "pairs", "turn", "base", "most", "row", "other", "forms", "form", "are_one", "place", "many", "behind", "word", "ahead"]) F sc_law fun _ _ cdv A outer s H E _ _ g hp => ?_
  refine' ⟨_, ?walk, ?rest⟩
  case walk =>
    refine' n_scons (r_par g 1 2 (r_cons (r_call g C__law_deal (r_cons (r_var 0) (r_cons n_int n_nil))) (r_cons (n_lst true n_nil) n_nil))) ?r1
    case r1 =>
     refine' n_scons (r_for g hp (r_range1 g b_range (r_cons n_int n_nil)) (r_gn g 3) ?a2) ?r2
     case a2 =>
       refine' n_scons (r_asg (r_call g C__law_scale (r_cons (r_var 1) n_nil)) (r_gseq g 2 (r_gcons (r_gn g 4) (r_gcons (r_gn g 5) n_gnil)))) ?r3
       case r3 =>
        refine' n_scons (r_asg (n_tup (r_cons (r_call g C__law_row (r_cons (r_var 1) (r_cons (r_var 5) (r_cons n_int (r_cons n_int n_nil))))) (r_cons (r_call g C__law_row (r_cons (r_var 1) (r_cons (r_var 5) (r_cons n_int (r_cons n_int n_nil))))) n_nil))) (r_gseq g 2 (r_gcons (r_gn g 6) (r_gcons (r_gn g 7) n_gnil)))) ?r4
        case r4 =>
         refine' n_scons (n_if (r_tcmp g .Eq (r_call g C__law_any (r_cons (r_var 1) (r_cons n_int n_nil))) n_int) ?a5 ?b5) ?r5
         case a5 =>
           refine' n_scons (r_asg (n_tup (r_cons (r_ix (r_var 6) n_int) (r_cons (n_bin .Mult (n_sl (r_ix (r_var 6) n_int) n_o0 (n_o1 n_int)) (n_bin .Add n_int (r_call g C__law_any (r_cons (r_var 1) (r_cons n_int n_nil))))) n_nil))) (r_gn g 6)) ?r6
           case r6 =>
            exact n_snil
         case b5 =>
           exact n_snil
         case r5 =>
          refine' n_scons (r_asg (n_lst false (r_cons (r_var 6) (r_cons (r_call g C__law_told_otherwise (r_cons (r_var 1) (r_cons (r_var 6) n_nil))) (r_cons (r_call g C__law_told_otherwise (r_cons (r_var 1) (r_cons (r_var 6) n_nil))) (r_cons (r_call g C__law_plain (r_cons (r_var 6) n_nil)) n_nil))))) (r_gn g 8)) ?r7
          case r7 =>
           refine' n_scons (r_for g hp (n_iseq (r_var 8)) (r_gn g 9) ?a8) ?r8
           case a8 =>
             refine' n_scons (r_asg (n_cat true (r_var 2) (n_lst false (r_cons (n_tup (r_cons (n_ifx (r_tcmp g .Gt (r_var 3) n_int) (r_call g C_plain_row (r_cons (r_var 9) n_nil)) (r_callk0 g C_plain_row ["row"] [0] (fun _ _ _ _ _ _ us ws h1 h2 => match us, ws, h1, h2 with | [], [_], _, _ => rfl) (n_kcons (r_var 9) n_knil))) (r_cons (r_call g C__law_plain (r_cons (r_var 6) n_nil)) n_nil))) (r_cons (n_tup (r_cons (n_ifx (r_tcmp g .Gt (r_var 3) n_int) (r_call g C_same_row (r_cons (r_var 9) (r_cons (r_var 6) n_nil))) (r_callk0 g C_same_row ["other", "one"] [1, 0] (fun _ _ _ _ _ _ us ws h1 h2 => match us, ws, h1, h2 with | [], [_, _], _, _ => rfl) (n_kcons (r_var 6) (n_kcons (r_var 9) n_knil)))) (r_cons n_bl n_nil))) n_nil)))) (r_gn g 2)) ?r9
             case r9 =>
              exact n_snil
           case r8 =>
            refine' n_scons (r_asg (r_cmp g .Eq (r_call g C__law_many (r_cons (r_var 6) (r_cons n_int n_nil))) (r_call g C__law_many (r_cons (r_var 7) (r_cons n_int n_nil)))) (r_gn g 10)) ?r10
            case r10 =>
             refine' n_scons (r_asg (n_cat true (r_var 2) (n_lst false (r_cons (n_tup (r_cons (r_call g C_same_row (r_cons (r_var 6) (r_cons (r_var 7) n_nil))) (r_cons (r_var 10) n_nil))) (r_cons (n_tup (r_cons (r_cmp g .Eq (r_call g C_plain_row (r_cons (r_var 6) n_nil)) (r_call g C_plain_row (r_cons (r_var 7) n_nil))) (r_cons (r_var 10) n_nil))) n_nil)))) (r_gn g 2)) ?r11
             case r11 =>
              refine' n_scons (r_for g hp (n_iseq (n_lst false (r_cons n_int (r_cons n_int (r_cons (r_len g b_len (r_cons (r_ix (r_var 6) n_int) n_nil)) (r_cons n_int (r_cons n_int (r_cons (r_call g C__law_any (r_cons (r_var 1) (r_cons n_int n_nil))) (r_cons (n_bin .Add (n_bin .Pow n_int n_int) (r_call g C__law_any (r_cons (r_var 1) (r_cons n_int n_nil)))) n_nil))))))))) (r_gn g 11) ?a12) ?r12
              case a12 =>
                refine' n_scons (r_expr (r_append (r_var 2) (n_tup (r_cons (n_ifx (r_tcmp g .Gt (r_var 3) n_int) (r_call g C_digit_at (r_cons (r_var 6) (r_cons (r_var 11) n_nil))) (r_callk0 g C_digit_at ["place", "row"] [1, 0] (fun _ _ _ _ _ _ us ws h1 h2 => match us, ws, h1, h2 with | [], [_, _], _, _ => rfl) (n_kcons (r_var 11) (n_kcons (r_var 6) n_knil)))) (r_cons (r_call g C__law_place (r_cons (r_var 6) (r_cons (r_var 11) n_nil))) n_nil))))) ?r13
                case r13 =>
                 exact n_snil
              case r12 =>
               refine' n_scons (r_asg (r_call g C__law_any (r_cons (r_var 1) (r_cons n_int n_nil))) (r_gn g 12)) ?r14
               case r14 =>
                refine' n_scons (r_expr (r_append (r_var 2) (n_tup (r_cons (n_ifx (r_tcmp g .Gt (r_var 3) n_int) (r_call g C_beginning (r_cons (r_var 6) (r_cons (r_var 12) n_nil))) (r_callk0 g C_beginning ["many", "row"] [1, 0] (fun _ _ _ _ _ _ us ws h1 h2 => match us, ws, h1, h2 with | [], [_, _], _, _ => rfl) (n_kcons (r_var 12) (n_kcons (r_var 6) n_knil)))) (r_cons (r_call g C__law_many (r_cons (r_var 6) (r_cons (r_var 12) n_nil))) n_nil))))) ?r15
                case r15 =>
                 refine' n_scons (r_asg (n_ifx (r_tcmp g .Gt (r_var 3) n_int) (r_call g C_later (r_cons (r_var 6) (r_cons (r_var 12) n_nil))) (r_callk0 g C_later ["many", "row"] [1, 0] (fun _ _ _ _ _ _ us ws h1 h2 => match us, ws, h1, h2 with | [], [_, _], _, _ => rfl) (n_kcons (r_var 12) (n_kcons (r_var 6) n_knil)))) (r_gn g 13)) ?r16
                 case r16 =>
                  refine' n_scons (n_if (n_tnot (r_truth (r_call g C__law_is_pair (r_cons (r_var 13) n_nil)))) ?a17 ?b17) ?r17
                  case a17 =>
                    refine' n_scons (n_ret n_bl) ?r18
                    case r18 =>
                     exact n_snil
                  case b17 =>
                    exact n_snil
                  case r17 =>
                   refine' n_scons (r_asg (n_cat true (r_var 2) (n_lst false (r_cons (n_tup (r_cons (r_call g C__law_plain (r_cons (r_var 13) n_nil)) (r_cons (r_var 13) n_nil))) (r_cons (n_tup (r_cons (r_tupleOf g b_tuple (r_cons (r_lc g false (.one 11) [("place", 11)] (r_range1 g b_range (r_cons n_int n_nil)) (fun _ _ _ _ _ g1 => ⟨(r_tg1 g1 11), r_ifs0, (r_call g1 C__law_place (r_cons (r_var 13) (r_cons (r_var 11) n_nil)))⟩)) n_nil)) (r_cons (r_tupleOf g b_tuple (r_cons (r_lc g false (.one 11) [("place", 11)] (r_range1 g b_range (r_cons n_int n_nil)) (fun _ _ _ _ _ g1 => ⟨(r_tg1 g1 11), r_ifs0, (r_call g1 C__law_place (r_cons (r_var 6) (r_cons (n_bin .Add (r_var 11) (r_var 12)) n_nil)))⟩)) n_nil)) n_nil))) n_nil)))) (r_gn g 2)) ?r19
                   case r19 =>
                    refine' n_scons (r_asg (r_call g C__law_digits (r_cons (r_var 1) (r_cons (r_var 5) (r_cons (r_call g C__law_any (r_cons (r_var 1) (r_cons n_int n_nil))) n_nil)))) (r_gn g 14)) ?r20
                    case r20 =>
                     refine' n_scons (r_asg (n_ifx (r_tcmp g .Gt (r_var 3) n_int) (r_call g C_put_ahead (r_cons (r_var 14) (r_cons (r_var 6) n_nil))) (r_callk0 g C_put_ahead ["row", "word"] [1, 0] (fun _ _ _ _ _ _ us ws h1 h2 => match us, ws, h1, h2 with | [], [_, _], _, _ => rfl) (n_kcons (r_var 6) (n_kcons (r_var 14) n_knil)))) (r_gn g 15)) ?r21
                     case r21 =>
                      refine' n_scons (r_asg (n_cat true (r_var 2) (n_lst false (r_cons (n_tup (r_cons (r_var 15) (r_cons (r_call g C__law_plain (r_cons (n_tup (r_cons (n_bin .Add (r_var 14) (r_ix (r_var 6) n_int)) (r_cons (r_ix (r_var 6) n_int) n_nil))) n_nil)) n_nil))) (r_cons (n_tup (r_cons (r_call g C_later (r_cons (r_var 15) (r_cons (r_len g b_len (r_cons (r_var 14) n_nil)) n_nil))) (r_cons (r_call g C__law_plain (r_cons (r_var 6) n_nil)) n_nil))) (r_cons (n_tup (r_cons (r_call g C_later (r_cons (r_var 6) (r_cons n_int n_nil))) (r_cons (r_call g C__law_plain (r_cons (r_var 6) n_nil)) n_nil))) n_nil))))) (r_gn g 2)) ?r22
                      case r22 =>
                       refine' n_scons (r_asg (n_cat true (r_var 2) (n_lst false (r_cons (n_tup (r_cons (r_call g C_put_ahead (r_cons (r_call g C__law_many (r_cons (r_var 6) (r_cons (r_var 12) n_nil))) (r_cons (r_var 13) n_nil))) (r_cons (r_call g C__law_plain (r_cons (r_var 6) n_nil)) n_nil))) (r_cons (n_tup (r_cons (r_call g C_later (r_cons (r_call g C_later (r_cons (r_var 6) (r_cons n_int n_nil))) (r_cons (r_var 12) n_nil))) (r_cons (r_call g C_later (r_cons (r_var 6) (r_cons (n_bin .Add (r_var 12) n_int) n_nil))) n_nil))) n_nil)))) (r_gn g 2)) ?r23
                       case r23 =>
                        exact n_snil
     case r2 =>
      refine' n_scons (r_asg (n_cat true (r_var 2) (n_lst false (r_cons (n_tup (r_cons (r_call g C_plain_row (r_cons (n_tup (r_cons (n_tup (r_cons n_int (r_cons n_int n_nil))) (r_cons (n_tup (r_cons n_int (r_cons n_int n_nil))) n_nil))) n_nil)) (r_cons (n_tup (r_cons (n_tup n_nil) (r_cons (n_tup (r_cons n_int (r_cons n_int n_nil))) n_nil))) n_nil))) (r_cons (n_tup (r_cons (r_call g C_plain_row (r_cons (n_tup (r_cons (n_tup (r_cons n_int n_nil)) (r_cons (n_tup (r_cons n_int (r_cons n_int n_nil))) n_nil))) n_nil)) (r_cons (n_tup (r_cons (n_tup (r_cons n_int n_nil)) (r_cons (n_tup (r_cons n_int n_nil)) n_nil))) n_nil))) n_nil)))) (r_gn g 2)) ?r24
      case r24 =>
       refine' n_scons (n_ret (r_call g C__law_all (r_cons (n_cat false (r_var 2) (n_lst false (r_cons (n_tup (r_cons (r_call g C_same_row (r_cons (n_tup (r_cons (n_tup n_nil) (r_cons (n_tup (r_cons n_int n_nil)) n_nil))) (r_cons (n_tup (r_cons (n_tup (r_cons n_int (r_cons n_int n_nil))) (r_cons (n_tup (r_cons n_int (r_cons n_int n_nil))) n_nil))) n_nil))) (r_cons n_bl n_nil))) (r_cons (n_tup (r_cons (r_call g C_same_row (r_cons (n_tup (r_cons (n_tup n_nil) (r_cons (n_tup (r_cons n_int n_nil)) n_nil))) (r_cons (n_tup (r_cons (n_tup (r_cons n_int n_nil)) (r_cons (n_tup (r_cons n_int n_nil)) n_nil))) n_nil))) (r_cons n_bl n_nil))) (r_cons (n_tup (r_cons (r_call g C_plain_row (r_cons (n_tup (r_cons (n_tup (r_cons n_int n_nil)) (r_cons (n_tup (r_cons n_int (r_cons n_int (r_cons n_int (r_cons n_int n_nil))))) n_nil))) n_nil)) (r_cons (n_tup (r_cons (n_tup n_nil) (r_cons (n_tup (r_cons n_int (r_cons n_int n_nil))) n_nil))) n_nil))) n_nil))))) n_nil))) ?r25
       case r25 =>
        exact n_snil
  case rest =>
    rintro ds Q E' ⟨ns, rfl, hns, hq⟩ _
    have two : 2 ≤ sizeLine := by decide
    have big : 1000 ≤ sizeLine := by decide
    refine seqS_cut (fun env st => env = envL ns 0 none none none none none none none none none none none none none ∧ PsAt st 0 0) (fun nx hnx => ⟨rfl, ns, 3005, rfl, hns, by decide, Nat.zero_le _, hnx _ _ ⟨rfl, PsAt.nil⟩⟩) ?_
    rintro env st ⟨rfl, hps0⟩
    refine seqS_cut (fun env st => ∃ n a3 a4 a5 a6 a7 a8 a9 a10 a11 a12 a13 a14 a15, env = envL ns n a3 a4 a5 a6 a7 a8 a9 a10 a11 a12 a13 a14 a15 ∧ PsAt st n 250) (fun nx hnx => ?_) ?_
    rotate_left
    · rintro env st ⟨n, a3, a4, a5, a6, a7, a8, a9, a10, a11, a12, a13, a14, a15, rfl, hps⟩
      have one : 1 ≤ sizeLine := by decide
      have four : 4 ≤ sizeLine := by decide
      have zero : 0 ≤ sizeLine := by decide
      have three : 3 ≤ sizeLine := by decide
      refine seqS_cut (fun env st => ∃ n, env = envL ns n a3 a4 a5 a6 a7 a8 a9 a10 a11 a12 a13 a14 a15 ∧ PsAt st n 252) (fun nx hnx => ?_) ?_
      · refine ⟨two, two, two, rfl, [0, 1], [0, 1], rfl, by decide, by decide, fun ha la pa ea _ _ => ⟨zero, two, two, two, one, two, two, rfl, [1], [0, 0], rfl, by decide, by decide, fun hb lb pb eb _ _ => ⟨one, one, two, two, two, ?_⟩⟩⟩
        obtain ⟨rfl, rfl⟩ := plain_uniq pa pl1 (fun n => by rw [ea, rw1])
        obtain ⟨rfl, rfl⟩ := plain_uniq pb pl2 (fun n => by rw [eb, rw2])
        exact hps.cat [rowD [] [0, 1], rowD [1] [0]] rfl (gd_mem2 (gd_row (by decide) (by decide)) (gd_row (by decide) (by decide))) (by decide) fun n' st' p => hnx _ _ ⟨n', rfl, p⟩
      · clear hps
        rintro env st ⟨n, rfl, hps⟩
        refine ⟨zero, one, two, two, two, two, rfl, [], [1], [1, 1], [1, 1], rfl, by decide, by decide, by decide, by decide, fun b hb => ⟨two, zero, one, two, one, one, two, rfl, [], [1], [0], [1], rfl, by decide, by decide, by decide, by decide, fun b2 hb2 => ⟨two, one, four, two, rfl, [0], [1, 0, 1, 0], rfl, by decide, by decide, fun hc lc pc ec _ _ => ⟨zero, two, two, two, three, ?_⟩⟩⟩⟩
        obtain ⟨rfl, rfl⟩ := plain_uniq pc pl1 (fun n => by rw [ec, rw3])
        have e1 : b = true := hb.mpr rw4
        have e2 : b2 = false := by
          cases b2 with
          | false => rfl
          | true => exact absurd (hb2.mp rfl 0) (by decide)
        subst e1 e2
        obtain ⟨as, bs, c1, c2, c3, ps, c4, c5, c6⟩ := hps.all [.bl true, .bl false, rowD [] [0, 1]] rfl (gd_mem3 (gd_bl _) (gd_bl _) (gd_row (by decide) (by decide))) (by decide)
        exact ⟨as, bs, c1, c2, c3, rfl, ps, by rw [c4], c5, c6, hq⟩
    refine ⟨⟨by decide, by decide⟩, ?_⟩
    refine forL_run (fun items env st => ∃ n a3 a4 a5 a6 a7 a8 a9 a10 a11 a12 a13 a14 a15, (∀ d ∈ items, ∃ t : Int, d = .int t) ∧ items.length ≤ 10 ∧ env = envL ns n a3 a4 a5 a6 a7 a8 a9 a10 a11 a12 a13 a14 a15 ∧ PsAt st n (25 * (10 - items.length))) ?_ ?_ ⟨0, none, none, none, none, none, none, none, none, none, none, none, none, none, fun d hd => (by obtain ⟨i, e, _⟩ := mem_range hd; exact ⟨i, e⟩), by rw [len_range]; decide, rfl, by rw [len_range]; exact hps0⟩
    · rintro env st ⟨n, a3, a4, a5, a6, a7, a8, a9, a10, a11, a12, a13, a14, a15, _, _, rfl, hps⟩
      exact ⟨trivial, hnx _ _ ⟨n, a3, a4, a5, a6, a7, a8, a9, a10, a11, a12, a13, a14, a15, rfl, hps⟩⟩
    · rintro F d ds env st ⟨n, a3, a4, a5, a6, a7, a8, a9, a10, a11, a12, a13, a14, a15, hitems, hlen, rfl, hps⟩ ih
      obtain ⟨t, rfl⟩ := hitems _ List.mem_cons_self
      obtain ⟨B, hB⟩ : ∃ B, B = 25 * (10 - (D.int t :: ds).length) := ⟨_, rfl⟩
      rw [← hB] at hps
      have hlen2 : ds.length + 1 ≤ 10 := hlen
      have hB2 : B + 25 = 25 * (10 - ds.length) := by rw [hB]; simp only [List.length_cons]; omega
      have hB3 : B ≤ 250 := by rw [hB]; omega
      refine ⟨trivial, ?_⟩
      refine seqS_cut (fun env st => ∃ (b m : Nat), m ≤ 10 ∧ env = envL ns n (some (.dat (.int t))) (some (.dat (.int b))) (some (.dat (.int m))) a6 a7 a8 a9 a10 a11 a12 a13 a14 a15 ∧ PsAt st n B) (fun nx hnx => ?_) ?_
      · exact ⟨rfl, rfl, fun b m b2 b10 m1 mb => ⟨_, rfl, rfl, hnx _ _ ⟨b, m, by omega, rfl, hps⟩⟩⟩
      clear hps
      rintro env st ⟨b, m, hm, rfl, hps⟩
      refine seqS_cut (fun env st => ∃ h l h2 l2 : List Int, h.length ≤ 5 ∧ l ≠ [] ∧ l.length ≤ 5 ∧ h2.length ≤ 5 ∧ l2 ≠ [] ∧ l2.length ≤ 5 ∧ env = envL ns n (some (.dat (.int t))) (some (.dat (.int b))) (some (.dat (.int m))) (some (.dat (rowD h l))) (some (.dat (rowD h2 l2))) a8 a9 a10 a11 a12 a13 a14 a15 ∧ PsAt st n B) (fun nx hnx => ?_) ?_
      · refine ⟨rfl, m, 5, 5, rfl, by omega, by decide, by decide, by decide, fun h l x1 x2 x3 _ => ⟨rfl, m, 5, 5, rfl, by omega, by decide, by decide, by decide, fun h2 l2 y1 y2 y3 _ => ⟨two, _, rfl, rfl, hnx _ _ ⟨h, l, h2, l2, x1, ?_, x3, y1, ?_, y3, rfl, hps⟩⟩⟩⟩
        · exact List.length_pos_iff.mp x2
        · exact List.length_pos_iff.mp y2
      clear hps
      rintro env st ⟨h, l0, h2, l2, zh, hl0, zl0, zh2, hl2, zl2, rfl, hps⟩
      refine seqS_cut (fun env st => ∃ l : List Int, l ≠ [] ∧ l.length ≤ 5 ∧ env = envL ns n (some (.dat (.int t))) (some (.dat (.int b))) (some (.dat (.int m))) (some (.dat (rowD h l))) (some (.dat (rowD h2 l2))) a8 a9 a10 a11 a12 a13 a14 a15 ∧ PsAt st n B) (fun nx hnx => ?_) ?_
      · refine ⟨rfl, 2, rfl, by decide, by decide, fun r r0 r1 => ⟨by rw [ok_int, ok_int]; rfl, fun t => ?_, fun t => hnx _ _ ⟨l0, hl0, zl0, rfl, hps⟩⟩⟩
        obtain ⟨y, l', el⟩ : ∃ y l', l0 = y :: l' := by
          cases l0 with
          | nil => exact absurd rfl hl0
          | cons y l' => exact ⟨y, l', rfl⟩
        have c1 : cutD (l0.map D.int) none (some 1) = [y].map D.int := by rw [cut_map, show (1 : Int) = ((1 : Nat) : Int) from rfl, cut_to, el]; rfl
        refine ⟨_, rfl, _, rfl, _, rfl, _, rfl, rfl, 4, rfl, by decide, by decide, fun q q0 q1 => ?_⟩
        obtain ⟨k, ek, k1, k2⟩ : ∃ k : Nat, 1 + q = k ∧ 1 ≤ k ∧ k ≤ 5 := ⟨(1 + q).toNat, by omega, by omega, by omega⟩
        refine ⟨by rw [c1]; simp, by rw [ek]; omega, by rw [ek]; omega, by rw [c1, List.length_map]; simp, two, hnx _ _ ⟨(List.replicate k [y]).flatten, ?_, ?_, ?_, hps⟩⟩
        · intro e
          have := congrArg List.length e
          rw [flat_len, List.length_nil] at this
          simp at this
          omega
        · rw [flat_len]
          simp
          exact k2
        · show envL ns n _ _ _ (some (.dat (.tup [intsD h, .tup (List.replicate (1 + q).toNat (cutD (l0.map D.int) none (some 1))).flatten]))) _ _ _ _ _ _ _ _ _ = _
          rw [ek, Int.toNat_natCast, c1, rep_map]
      clear hps
      rintro env st ⟨l, hl, zl, rfl, hps⟩
      refine seqS_cut (fun env st => ∃ fs : List (List Int × List Int), fs.length = 4 ∧ (∀ f ∈ fs, f.2 ≠ [] ∧ f.2.length ≤ 200 ∧ f.1.length ≤ 200 ∧ ∀ n, rowAt f.1 f.2 n = rowAt h l n) ∧ env = envL ns n (some (.dat (.int t))) (some (.dat (.int b))) (some (.dat (.int m))) (some (.dat (rowD h l))) (some (.dat (rowD h2 l2))) (some (.dat (.lst (fs.map fun f => rowD f.1 f.2)))) a9 a10 a11 a12 a13 a14 a15 ∧ PsAt st n B) (fun nx hnx => ?_) ?_
      · refine ⟨rfl, h, l, rfl, hl, by omega, by omega, fun ha la x1 x2 x3 x4 => ⟨rfl, h, l, rfl, hl, by omega, by omega, fun hb lb y1 y2 y3 y4 => ⟨rfl, h, l, rfl, hl, by omega, fun hc lc p e w1 w2 => ⟨Nat.le_trans (by decide : 4 ≤ 1000) big, hnx _ _ ⟨[(h, l), (ha, la), (hb, lb), (hc, lc)], rfl, fun f hf => ?_, rfl, hps⟩⟩⟩⟩⟩
        simp only [List.mem_cons, List.not_mem_nil, or_false] at hf
        rcases hf with rfl | rfl | rfl | rfl
        · exact ⟨hl, by show l.length ≤ 200; omega, by show h.length ≤ 200; omega, fun _ => rfl⟩
        · exact ⟨x1, x2, x3, x4⟩
        · exact ⟨y1, y2, y3, y4⟩
        · exact ⟨p.1, by show lc.length ≤ 200; omega, by show hc.length ≤ 200; omega, e⟩
      clear hps
      rintro env st ⟨fs, f4, hf, rfl, hps⟩
      refine seqS_cut (fun env st => ∃ n a9, env = envL ns n (some (.dat (.int t))) (some (.dat (.int b))) (some (.dat (.int m))) (some (.dat (rowD h l))) (some (.dat (rowD h2 l2))) (some (.dat (.lst (fs.map fun f => rowD f.1 f.2)))) a9 a10 a11 a12 a13 a14 a15 ∧ PsAt st n (B + 8)) (fun nx hnx => ?_) ?_
      · refine ⟨_, rfl, ?_⟩
        refine forL_run (fun items env st => ∃ gs n' a9, items = gs.map (fun f : List Int × List Int => rowD f.1 f.2) ∧ gs.length ≤ 4 ∧ (∀ f ∈ gs, f.2 ≠ [] ∧ f.2.length ≤ 200 ∧ f.1.length ≤ 200 ∧ ∀ n, rowAt f.1 f.2 n = rowAt h l n) ∧ env = envL ns n' (some (.dat (.int t))) (some (.dat (.int b))) (some (.dat (.int m))) (some (.dat (rowD h l))) (some (.dat (rowD h2 l2))) (some (.dat (.lst (fs.map fun f => rowD f.1 f.2)))) a9 a10 a11 a12 a13 a14 a15 ∧ PsAt st n' (B + 2 * (4 - gs.length))) ?_ ?_ ⟨fs, n, a9, rfl, by omega, hf, rfl, by rw [f4]; exact hps⟩
        · rintro env st ⟨gs, n', a9, e, gl, _, rfl, hps⟩
          have : gs = [] := by
            cases gs with
            | nil => rfl
            | cons _ _ => cases e
          subst this
          exact ⟨trivial, hnx _ _ ⟨n', a9, rfl, hps⟩⟩
        · rintro F d ds env st ⟨gs, n', a9, e, gl, hg, rfl, hps⟩ ih
          cases gs with
          | nil => cases e
          | cons f gs =>
            obtain ⟨rfl, rfl⟩ := List.cons.inj e
            obtain ⟨q1, q2, q3, q4⟩ := hg f List.mem_cons_self
            have gl2 : gs.length + 1 ≤ 4 := gl
            have fin : ∀ ha la : List Int, ha.length ≤ 1000 → la.length ≤ 1000 → ∀ ds', ds' = [rowD ha la, .bl true].map pairD → ∀ QQ : QV, (∀ n' st', PsAt st' n' (B + 2 * (4 - gs.length)) → QQ (.loc n') st') → ∃ as bs, lstX st (.loc n') = some as ∧ lstX st (.dat (.lst ds')) = some bs ∧ as.length + bs.length ≤ sizeLine ∧ newL true (as ++ bs) st QQ := fun ha la h1 h2 ds' e QQ k => hps.cat [rowD ha la, .bl true] e (gd_mem2 (gd_row (by omega) (by omega)) (gd_bl true)) (by simp; omega) fun n' st' p => k n' st' (p.mono (by simp; omega))
            refine ⟨trivial, ?_⟩
            refine ⟨fun _ => ?_, fun _ => ?_⟩
            all_goals
              refine ⟨rfl, f.1, f.2, rfl, q1, by omega, fun ha la pa ea z1 z2 => ⟨rfl, h, l, rfl, hl, by omega, fun hb lb pb eb _ _ => ?_⟩⟩
              obtain ⟨rfl, rfl⟩ := plain_uniq pa pb (fun n => by rw [ea, eb, q4])
              refine ⟨two, ?_⟩
              refine ⟨fun _ => ?_, fun _ => ?_⟩
              all_goals
                refine ⟨rfl, f.1, f.2, h, l, rfl, q1, hl, by omega, by omega, fun b hb => ?_⟩
                have hb : b = true := hb.mpr q4
                subst hb
                refine ⟨two, two, fin ha la (by omega) (by omega) _ rfl _ fun n'' st' p => ?_⟩
                exact ih _ _ ⟨gs, n'', _, rfl, by omega, fun f hf => hg f (List.mem_cons_of_mem _ hf), rfl, p⟩
      clear hps hf f4
      rintro env st ⟨n, a9, rfl, hps⟩
      refine seqS_cut (fun env st => ∃ bb : Bool, (bb = true ↔ ∀ n, rowAt h l n = rowAt h2 l2 n) ∧ env = envL ns n (some (.dat (.int t))) (some (.dat (.int b))) (some (.dat (.int m))) (some (.dat (rowD h l))) (some (.dat (rowD h2 l2))) (some (.dat (.lst (fs.map fun f => rowD f.1 f.2)))) a9 (some (.dat (.bl bb))) a11 a12 a13 a14 a15 ∧ PsAt st n (B + 8)) (fun nx hnx => ?_) ?_
      · exact ⟨rfl, h, l, 40, rfl, hl, by decide, rfl, h2, l2, 40, rfl, hl2, by decide, by rw [ints_ok, ints_ok]; rfl, hnx _ _ ⟨_, many_iff zh zh2 hl hl2 zl zl2, rfl, hps⟩⟩
      clear hps
      rintro env st ⟨ab, hab, rfl, hps⟩
      refine seqS_cut (fun env st => ∃ n, env = envL ns n (some (.dat (.int t))) (some (.dat (.int b))) (some (.dat (.int m))) (some (.dat (rowD h l))) (some (.dat (rowD h2 l2))) (some (.dat (.lst (fs.map fun f => rowD f.1 f.2)))) a9 (some (.dat (.bl ab))) a11 a12 a13 a14 a15 ∧ PsAt st n (B + 10)) (fun nx hnx => ?_) ?_
      · refine ⟨rfl, h, l, h2, l2, rfl, hl, hl2, by omega, by omega, fun b1 hb1 => ⟨two, rfl, h, l, rfl, hl, by omega, fun ha la pa ea _ _ => ⟨rfl, h2, l2, rfl, hl2, by omega, fun hb lb pb eb _ _ => ⟨by rw [row_ok, row_ok]; rfl, two, two, ?_⟩⟩⟩⟩
        have e1 : b1 = ab := Bool.eq_iff_iff.mpr (hb1.trans hab.symm)
        have e2 : eqvD (rowD ha la) (rowD hb lb) = ab := by
          rw [row_eqv, Bool.eq_iff_iff, decide_eq_true_iff, hab]
          constructor
          · rintro ⟨rfl, rfl⟩ n
            rw [← ea, eb]
          · intro e
            exact plain_uniq pa pb fun n => by rw [ea, eb, e]
        refine hps.cat [.bl ab, .bl ab] ?_ (gd_mem2 (gd_bl _) (gd_bl _)) (by simp; omega) fun n' st' p => hnx _ _ ⟨n', rfl, p⟩
        show [D.tup [.bl b1, .bl ab], D.tup [.bl (eqvD (rowD ha la) (rowD hb lb)), .bl ab]] = _
        rw [e1, e2]
        rfl
      clear hps
      rintro env st ⟨n, rfl, hps⟩
      refine seqS_cut (fun env st => ∃ a11, env = envL ns n (some (.dat (.int t))) (some (.dat (.int b))) (some (.dat (.int m))) (some (.dat (rowD h l))) (some (.dat (rowD h2 l2))) (some (.dat (.lst (fs.map fun f => rowD f.1 f.2)))) a9 (some (.dat (.bl ab))) a11 a12 a13 a14 a15 ∧ PsAt st n (B + 17)) (fun nx hnx => ?_) ?_
      · refine ⟨_, rfl, _, rfl, _, rfl, rfl, 10000, rfl, by decide, by decide, fun r r0 r1 => ⟨⟨by decide, by decide, by decide⟩, rfl, 60, rfl, by decide, by decide, fun s s0 s1 => ⟨Nat.le_trans (by decide : 7 ≤ 1000) big, _, rfl, ?_⟩⟩⟩
        refine forL_run (fun items env st => ∃ a11, (∀ d ∈ items, ∃ p : Nat, d = .int p) ∧ items.length ≤ 7 ∧ env = envL ns n (some (.dat (.int t))) (some (.dat (.int b))) (some (.dat (.int m))) (some (.dat (rowD h l))) (some (.dat (rowD h2 l2))) (some (.dat (.lst (fs.map fun f => rowD f.1 f.2)))) a9 (some (.dat (.bl ab))) a11 a12 a13 a14 a15 ∧ PsAt st n (B + 10 + (7 - items.length))) ?_ ?_ ⟨a11, fun d hd => ?_, Nat.le_refl _, rfl, hps.mono (Nat.le_add_right _ _)⟩
        · rintro env st ⟨a11, _, _, rfl, hps⟩
          exact ⟨trivial, hnx _ _ ⟨a11, rfl, hps⟩⟩
        · rintro F d ds env st ⟨a11, hd, hz, rfl, hps⟩ ih
          obtain ⟨p, rfl⟩ := hd d List.mem_cons_self
          have hz2 : ds.length + 1 ≤ 7 := hz
          refine ⟨trivial, hps.own, fun _ => ?_, fun _ => ?_⟩
          all_goals
            obtain ⟨n1, e1, o1, o2, q⟩ := hps.app (.int (rowAt h l p)) (gd_int _) (by simp only [List.length_cons]; omega)
            refine ⟨rfl, h, l, p, rfl, hl, rfl, h, l, p, rfl, hl, two, n1, e1, o1, o2, ?_⟩
            exact ih _ _ ⟨_, fun d hd' => hd d (List.mem_cons_of_mem _ hd'), by omega, rfl, q.mono (by simp only [List.length_cons]; omega)⟩
        · simp only [List.mem_cons, List.not_mem_nil, or_false] at hd
          rcases hd with h | h | h | h | h | h | h
          · exact ⟨0, h⟩
          · exact ⟨1, h⟩
          · exact ⟨_, h⟩
          · exact ⟨11, h⟩
          · exact ⟨200, h⟩
          · obtain ⟨k, rfl⟩ := Int.eq_ofNat_of_zero_le r0
            exact ⟨k, h⟩
          · obtain ⟨k, rfl⟩ := Int.eq_ofNat_of_zero_le s0
            exact ⟨10 ^ 20 + k, by rw [h]; rfl⟩
      clear hps
      rintro env st ⟨a11, rfl, hps⟩
      refine seqS_cut (fun env st => ∃ k : Nat, k ≤ 30 ∧ env = envL ns n (some (.dat (.int t))) (some (.dat (.int b))) (some (.dat (.int m))) (some (.dat (rowD h l))) (some (.dat (rowD h2 l2))) (some (.dat (.lst (fs.map fun f => rowD f.1 f.2)))) a9 (some (.dat (.bl ab))) a11 (some (.dat (.int k))) a13 a14 a15 ∧ PsAt st n (B + 17)) (fun nx hnx => ?_) ?_
      · refine ⟨rfl, 30, rfl, by decide, by decide, fun r r0 r1 => ?_⟩
        obtain ⟨k, rfl⟩ := Int.eq_ofNat_of_zero_le r0
        exact hnx _ _ ⟨k, by omega, rfl, hps⟩
      clear hps
      rintro env st ⟨k, hk, rfl, hps⟩
      refine seqS_cut (fun env st => env = envL ns n (some (.dat (.int t))) (some (.dat (.int b))) (some (.dat (.int m))) (some (.dat (rowD h l))) (some (.dat (rowD h2 l2))) (some (.dat (.lst (fs.map fun f => rowD f.1 f.2)))) a9 (some (.dat (.bl ab))) a11 (some (.dat (.int k))) a13 a14 a15 ∧ PsAt st n (B + 18)) (fun nx hnx => ?_) ?_
      · refine ⟨hps.own, fun _ => ?_, fun _ => ?_⟩
        all_goals
          obtain ⟨n1, e1, o1, o2, q⟩ := hps.app (intsD ((List.range k).map (rowAt h l))) (gd_ints (by rw [List.length_map, List.length_range]; omega)) (by omega)
          exact ⟨rfl, h, l, k, rfl, hl, by omega, rfl, h, l, k, rfl, hl, by omega, two, n1, e1, o1, o2, hnx _ _ ⟨rfl, q⟩⟩
      clear hps
      rintro env st ⟨rfl, hps⟩
      refine seqS_cut (fun env st => ∃ hv lv, Plain hv lv ∧ (∀ n, rowAt hv lv n = rowAt h l (n + k)) ∧ hv.length ≤ 5 ∧ lv.length ≤ 5 ∧ env = envL ns n (some (.dat (.int t))) (some (.dat (.int b))) (some (.dat (.int m))) (some (.dat (rowD h l))) (some (.dat (rowD h2 l2))) (some (.dat (.lst (fs.map fun f => rowD f.1 f.2)))) a9 (some (.dat (.bl ab))) a11 (some (.dat (.int k))) (some (.dat (rowD hv lv))) a14 a15 ∧ PsAt st n (B + 18)) (fun nx hnx => ?_) ?_
      · refine ⟨fun _ => ?_, fun _ => ?_⟩
        all_goals
          exact ⟨rfl, h, l, k, rfl, hl, by omega, fun hv lv pv ev v1 v2 => hnx _ _ ⟨hv, lv, pv, ev, by omega, by omega, rfl, hps⟩⟩
      clear hps
      rintro env st ⟨hv, lv, pv, ev, zhv, zlv, rfl, hps⟩
      refine seqS_cut (fun env st => env = envL ns n (some (.dat (.int t))) (some (.dat (.int b))) (some (.dat (.int m))) (some (.dat (rowD h l))) (some (.dat (rowD h2 l2))) (some (.dat (.lst (fs.map fun f => rowD f.1 f.2)))) a9 (some (.dat (.bl ab))) a11 (some (.dat (.int k))) (some (.dat (rowD hv lv))) a14 a15 ∧ PsAt st n (B + 18)) (fun nx hnx => ?_) ?_
      · exact ⟨rfl, _, _, rfl, fun z => (by cases z), fun _ => hnx _ _ ⟨rfl, hps⟩⟩
      clear hps
      rintro env st ⟨rfl, hps⟩
      refine seqS_cut (fun env st => ∃ n, env = envL ns n (some (.dat (.int t))) (some (.dat (.int b))) (some (.dat (.int m))) (some (.dat (rowD h l))) (some (.dat (rowD h2 l2))) (some (.dat (.lst (fs.map fun f => rowD f.1 f.2)))) a9 (some (.dat (.bl ab))) a11 (some (.dat (.int k))) (some (.dat (rowD hv lv))) a14 a15 ∧ PsAt st n (B + 20)) (fun nx hnx => ?_) ?_
      · refine ⟨rfl, hv, lv, rfl, pv.1, by omega, fun hb lb pb eb _ _ => ⟨two, ⟨by decide, by decide⟩, ?_⟩⟩
        obtain ⟨rfl, rfl⟩ := plain_uniq pv pb (fun n => by rw [eb])
        refine compL_run (fun d o => o = some (fInt (fun i => .int (rowAt hv lv i.toNat)) d)) trivial (by rw [len_range]; exact (by decide : 0 + 30 ≤ sizeLine)) (fun d hd C Pp c hP => ?_) fun ys hy => ?_
        · obtain ⟨i, rfl, i0, i1⟩ := mem_range hd
          obtain ⟨i, rfl⟩ := Int.eq_ofNat_of_zero_le i0
          exact ⟨rfl, fun _ => ⟨rfl, hv, lv, i, rfl, pv.1, rfl, c, hP _ rfl⟩, fun z => (by cases z)⟩
        · refine ⟨_, rfl, ⟨by decide, by decide⟩, ?_⟩
          refine compL_run (fun d o => o = some (fInt (fun i => .int (rowAt h l (i.toNat + k))) d)) trivial (by rw [len_range]; exact (by decide : 0 + 30 ≤ sizeLine)) (fun d hd C Pp c hP => ?_) fun zs hz => ?_
          · obtain ⟨i, rfl, i0, i1⟩ := mem_range hd
            obtain ⟨i, rfl⟩ := Int.eq_ofNat_of_zero_le i0
            exact ⟨rfl, fun _ => ⟨rfl, h, l, i + k, rfl, hl, rfl, c, hP _ rfl⟩, fun z => (by cases z)⟩
          · have e1 : ys = ((List.range 30).map (rowAt hv lv)).map D.int := by
              rw [hy.map, show (30 : Int) = ((30 : Nat) : Int) from rfl, map_range, List.map_map]
              rfl
            have e2 : zs = ((List.range 30).map (rowAt hv lv)).map D.int := by
              rw [hz.map, show (30 : Int) = ((30 : Nat) : Int) from rfl, map_range, List.map_map]
              exact List.map_congr_left fun i _ => by show D.int _ = D.int _; rw [ev, Int.toNat_natCast]
            refine ⟨_, rfl, two, two, hps.cat [rowD hv lv, intsD ((List.range 30).map (rowAt hv lv))] ?_ (gd_mem2 (gd_row (by omega) (by omega)) (gd_ints (by simp))) (by simp; omega) fun n' st' p => hnx _ _ ⟨n', rfl, p⟩⟩
            show [D.tup [rowD hv lv, rowD hv lv], D.tup [.tup ([] ++ ys), .tup ([] ++ zs)]] = _
            rw [e1, e2]
            rfl
      clear hps
      rintro env st ⟨n, rfl, hps⟩
      refine seqS_cut (fun env st => ∃ wd : List Int, wd.length ≤ 9 ∧ env = envL ns n (some (.dat (.int t))) (some (.dat (.int b))) (some (.dat (.int m))) (some (.dat (rowD h l))) (some (.dat (rowD h2 l2))) (some (.dat (.lst (fs.map fun f => rowD f.1 f.2)))) a9 (some (.dat (.bl ab))) a11 (some (.dat (.int k))) (some (.dat (rowD hv lv))) (some (.dat (intsD wd))) a15 ∧ PsAt st n (B + 20)) (fun nx hnx => ?_) ?_
      · refine ⟨rfl, 9, rfl, by decide, by decide, fun r r0 r1 => ?_⟩
        obtain ⟨r, rfl⟩ := Int.eq_ofNat_of_zero_le r0
        exact ⟨rfl, m, r, rfl, by omega, by omega, fun xs lx _ => hnx _ _ ⟨xs, by omega, rfl, hps⟩⟩
      clear hps
      rintro env st ⟨wd, zw, rfl, hps⟩
      refine seqS_cut (fun env st => ∃ hu lu, Plain hu lu ∧ (∀ n, rowAt hu lu n = rowAt (wd ++ h) l n) ∧ hu.length ≤ 14 ∧ lu.length ≤ 5 ∧ env = envL ns n (some (.dat (.int t))) (some (.dat (.int b))) (some (.dat (.int m))) (some (.dat (rowD h l))) (some (.dat (rowD h2 l2))) (some (.dat (.lst (fs.map fun f => rowD f.1 f.2)))) a9 (some (.dat (.bl ab))) a11 (some (.dat (.int k))) (some (.dat (rowD hv lv))) (some (.dat (intsD wd))) (some (.dat (rowD hu lu))) ∧ PsAt st n (B + 20)) (fun nx hnx => ?_) ?_
      · refine ⟨fun _ => ?_, fun _ => ?_⟩
        all_goals
          exact ⟨rfl, wd, h, l, rfl, hl, by omega, by omega, fun hu lu pu eu u1 u2 => hnx _ _ ⟨hu, lu, pu, eu, by omega, by omega, rfl, hps⟩⟩
      clear hps
      rintro env st ⟨hu, lu, pu, eu, zhu, zlu, rfl, hps⟩
      refine seqS_cut (fun env st => ∃ n, env = envL ns n (some (.dat (.int t))) (some (.dat (.int b))) (some (.dat (.int m))) (some (.dat (rowD h l))) (some (.dat (rowD h2 l2))) (some (.dat (.lst (fs.map fun f => rowD f.1 f.2)))) a9 (some (.dat (.bl ab))) a11 (some (.dat (.int k))) (some (.dat (rowD hv lv))) (some (.dat (intsD wd))) (some (.dat (rowD hu lu))) ∧ PsAt st n (B + 23)) (fun nx hnx => ?_) ?_
      · refine ⟨_, rfl, _, rfl, ?_, _, rfl, _, rfl, two, rfl, wd ++ h, l, by rw [← List.map_append], hl, by omega, fun hb lb pb eb _ _ => ⟨two, ?_⟩⟩
        · rw [List.length_map, List.length_map]
          exact Nat.le_trans (by omega : _ ≤ 1000) big
        obtain ⟨rfl, rfl⟩ := plain_uniq pu pb (fun n => by rw [eu, eb])
        refine ⟨_, rfl, rfl, hu, lu, wd.length, by rw [List.length_map], pu.1, by omega, fun hc lc pc ec _ _ => ⟨rfl, h, l, rfl, hl, by omega, fun hd ld pd ed _ _ => ⟨two, rfl, h, l, 0, rfl, hl, by omega, fun he le pe ee _ _ => ⟨rfl, h, l, rfl, hl, by omega, fun hg lg pg eg g1 g2 => ⟨two, Nat.le_trans (by decide : 3 ≤ 1000) big, ?_⟩⟩⟩⟩⟩
        obtain ⟨rfl, rfl⟩ := plain_uniq pd pg (fun n => by rw [ed, eg])
        obtain ⟨rfl, rfl⟩ := plain_uniq pc pd (fun n => by rw [ec, ed, eu, row_app, if_neg (by omega), Nat.add_sub_cancel])
        obtain ⟨rfl, rfl⟩ := plain_uniq pe pc (fun n => by rw [ee, ed]; rfl)
        exact hps.cat [rowD hu lu, rowD he le, rowD he le] rfl (gd_mem3 (gd_row (by omega) (by omega)) (gd_row (by omega) (by omega)) (gd_row (by omega) (by omega))) (by simp; omega) fun n' st' p => hnx _ _ ⟨n', rfl, p⟩
      clear hps
      rintro env st ⟨n, rfl, hps⟩
      refine ⟨rfl, h, l, k, rfl, hl, by omega, rfl, (List.range k).map (rowAt h l), hv, lv, rfl, pv.1, by omega, by rw [List.length_map, List.length_range]; omega, fun ha la pa ea a1 a2 => ⟨rfl, h, l, rfl, hl, by omega, fun hb lb pb eb b1 b2 => ⟨two, rfl, h, l, 3, rfl, hl, by omega, fun hc lc pc ec c1 c2 => ⟨rfl, hc, lc, k, rfl, pc.1, by omega, fun hd ld pd ed d1 d2 => ⟨rfl, h, l, k + 3, rfl, hl, by omega, fun he le pe ee _ _ => ⟨two, two, ?_⟩⟩⟩⟩⟩⟩
      obtain ⟨rfl, rfl⟩ := plain_uniq pa pb (fun n => by
        rw [ea, eb, row_app, List.length_map, List.length_range]
        split
        · rename_i q
          simp [List.getD_eq_getElem?_getD, q]
        · rw [ev, Nat.sub_add_cancel (by omega)])
      obtain ⟨rfl, rfl⟩ := plain_uniq pd pe (fun n => by rw [ed, ec, ee, Nat.add_assoc])
      exact hps.cat [rowD ha la, rowD hd ld] rfl (gd_mem2 (gd_row (by omega) (by omega)) (gd_row (by omega) (by omega))) (by simp; omega) fun n' st' p => ih _ _ ⟨n', _, _, _, _, _, _, _, _, _, _, _, _, _, fun d hd' => hitems d (List.mem_cons_of_mem _ hd'), by omega, rfl, p.mono (by simp; omega)⟩

theorem all_mk {l : PySem.W.OpenLaw} {w : World} {K : PySem.W.Frag} {h : Heap} {mg : Str → Option Value} {fa : Addr} (X : K.In h) (G : h.Ns mainGlobals mg) (hfa : mg "law" = some (.ref fa))
    {f0 : Addr} {oc0 kV0 dc0 pm0 cd0 ct0 : Value} {od0 an0 : Option Addr} {sl0 : Array (Option Value)}
    {f1 : Addr} {oc1 kV1 dc1 pm1 cd1 ct1 : Value} {od1 an1 : Option Addr} {sl1 : Array (Option Value)}
    {f2 : Addr} {oc2 kV2 dc2 pm2 cd2 ct2 : Value} {od2 an2 : Option Addr} {sl2 : Array (Option Value)}
    {f3 : Addr} {oc3 kV3 dc3 pm3 cd3 ct3 : Value} {od3 an3 : Option Addr} {sl3 : Array (Option Value)}
    {f4 : Addr} {oc4 kV4 dc4 pm4 cd4 ct4 : Value} {od4 an4 : Option Addr} {sl4 : Array (Option Value)}
    {f5 : Addr} {oc5 kV5 dc5 pm5 cd5 ct5 : Value} {od5 an5 : Option Addr} {sl5 : Array (Option Value)}
    {f6 : Addr} {oc6 kV6 dc6 pm6 cd6 ct6 : Value} {od6 an6 : Option Addr} {sl6 : Array (Option Value)}
    {f7 : Addr} {oc7 kV7 dc7 pm7 cd7 ct7 : Value} {od7 an7 : Option Addr} {sl7 : Array (Option Value)}
    {f8 : Addr} {oc8 kV8 dc8 pm8 cd8 ct8 : Value} {od8 an8 : Option Addr} {sl8 : Array (Option Value)}
    {f9 : Addr} {oc9 kV9 dc9 pm9 cd9 ct9 : Value} {od9 an9 : Option Addr} {sl9 : Array (Option Value)}
    {f10 : Addr} {oc10 kV10 dc10 pm10 cd10 ct10 : Value} {od10 an10 : Option Addr} {sl10 : Array (Option Value)}
    {f11 : Addr} {oc11 kV11 dc11 pm11 cd11 ct11 : Value} {od11 an11 : Option Addr} {sl11 : Array (Option Value)}
    {f12 : Addr} {oc12 kV12 dc12 pm12 cd12 ct12 : Value} {od12 an12 : Option Addr} {sl12 : Array (Option Value)}
    {f13 : Addr} {oc13 kV13 dc13 pm13 cd13 ct13 : Value} {od13 an13 : Option Addr} {sl13 : Array (Option Value)}
    {f14 : Addr} {oc14 kV14 dc14 pm14 cd14 ct14 : Value} {od14 an14 : Option Addr} {sl14 : Array (Option Value)}
    {f15 : Addr} {oc15 kV15 dc15 pm15 cd15 ct15 : Value} {od15 an15 : Option Addr} {sl15 : Array (Option Value)}
    {f16 : Addr} {oc16 kV16 dc16 pm16 cd16 ct16 : Value} {od16 an16 : Option Addr} {sl16 : Array (Option Value)}
    {f17 : Addr} {oc17 kV17 dc17 pm17 cd17 ct17 : Value} {od17 an17 : Option Addr} {sl17 : Array (Option Value)}
    {f18 : Addr} {oc18 kV18 dc18 pm18 cd18 ct18 : Value} {od18 an18 : Option Addr} {sl18 : Array (Option Value)}
    {f19 : Addr} {oc19 kV19 dc19 pm19 cd19 ct19 : Value} {od19 an19 : Option Addr} {sl19 : Array (Option Value)}
    {f20 : Addr} {oc20 kV20 dc20 pm20 cd20 ct20 : Value} {od20 an20 : Option Addr} {sl20 : Array (Option Value)}
    {f21 : Addr} {oc21 kV21 dc21 pm21 cd21 ct21 : Value} {od21 an21 : Option Addr} {sl21 : Array (Option Value)}
    {f22 : Addr} {oc22 kV22 dc22 pm22 cd22 ct22 : Value} {od22 an22 : Option Addr} {sl22 : Array (Option Value)}
    {f23 : Addr} {oc23 kV23 dc23 pm23 cd23 ct23 : Value} {od23 an23 : Option Addr} {sl23 : Array (Option Value)}
    (a0 : PySem.W.nsIn K mainGlobals "thing_at" = some (some (.ref f0))) (l0 : K.lookup f0 = some ⟨oc0, od0, .func (PySem.W.fnOf "thing_at" "thing_at" (defArgs (top 1)) (defBody (top 1)) (defScope (top 1)) .none kV0 dc0 pm0 an0 cd0 ct0), sl0⟩) (c0 : PySem.W.codeIn K cd0 "thing_at" = true) (k0 : PySem.W.keepIn K (.ref f0) = true)
    (a1 : PySem.W.nsIn K mainGlobals "digit_at" = some (some (.ref f1))) (l1 : K.lookup f1 = some ⟨oc1, od1, .func (PySem.W.fnOf "digit_at" "digit_at" (defArgs (top 2)) (defBody (top 2)) (defScope (top 2)) .none kV1 dc1 pm1 an1 cd1 ct1), sl1⟩) (c1 : PySem.W.codeIn K cd1 "digit_at" = true) (k1 : PySem.W.keepIn K (.ref f1) = true)
    (a2 : PySem.W.nsIn K mainGlobals "beginning" = some (some (.ref f2))) (l2 : K.lookup f2 = some ⟨oc2, od2, .func (PySem.W.fnOf "beginning" "beginning" (defArgs (top 3)) (defBody (top 3)) (defScope (top 3)) .none kV2 dc2 pm2 an2 cd2 ct2), sl2⟩) (c2 : PySem.W.codeIn K cd2 "beginning" = true) (k2 : PySem.W.keepIn K (.ref f2) = true)
    (a3 : PySem.W.nsIn K mainGlobals "shortest_loop" = some (some (.ref f3))) (l3 : K.lookup f3 = some ⟨oc3, od3, .func (PySem.W.fnOf "shortest_loop" "shortest_loop" (defArgs (top 4)) (defBody (top 4)) (defScope (top 4)) .none kV3 dc3 pm3 an3 cd3 ct3), sl3⟩) (c3 : PySem.W.codeIn K cd3 "shortest_loop" = true) (k3 : PySem.W.keepIn K (.ref f3) = true)
    (a4 : PySem.W.nsIn K mainGlobals "plain_row" = some (some (.ref f4))) (l4 : K.lookup f4 = some ⟨oc4, od4, .func (PySem.W.fnOf "plain_row" "plain_row" (defArgs (top 5)) (defBody (top 5)) (defScope (top 5)) .none kV4 dc4 pm4 an4 cd4 ct4), sl4⟩) (c4 : PySem.W.codeIn K cd4 "plain_row" = true) (k4 : PySem.W.keepIn K (.ref f4) = true)
    (a5 : PySem.W.nsIn K mainGlobals "same_row" = some (some (.ref f5))) (l5 : K.lookup f5 = some ⟨oc5, od5, .func (PySem.W.fnOf "same_row" "same_row" (defArgs (top 6)) (defBody (top 6)) (defScope (top 6)) .none kV5 dc5 pm5 an5 cd5 ct5), sl5⟩) (c5 : PySem.W.codeIn K cd5 "same_row" = true) (k5 : PySem.W.keepIn K (.ref f5) = true)
    (a6 : PySem.W.nsIn K mainGlobals "later" = some (some (.ref f6))) (l6 : K.lookup f6 = some ⟨oc6, od6, .func (PySem.W.fnOf "later" "later" (defArgs (top 7)) (defBody (top 7)) (defScope (top 7)) .none kV6 dc6 pm6 an6 cd6 ct6), sl6⟩) (c6 : PySem.W.codeIn K cd6 "later" = true) (k6 : PySem.W.keepIn K (.ref f6) = true)
    (a7 : PySem.W.nsIn K mainGlobals "put_ahead" = some (some (.ref f7))) (l7 : K.lookup f7 = some ⟨oc7, od7, .func (PySem.W.fnOf "put_ahead" "put_ahead" (defArgs (top 8)) (defBody (top 8)) (defScope (top 8)) .none kV7 dc7 pm7 an7 cd7 ct7), sl7⟩) (c7 : PySem.W.codeIn K cd7 "put_ahead" = true) (k7 : PySem.W.keepIn K (.ref f7) = true)
    (a8 : PySem.W.nsIn K mainGlobals "_law_deal" = some (some (.ref f8))) (l8 : K.lookup f8 = some ⟨oc8, od8, .func (PySem.W.fnOf "_law_deal" "_law_deal" (defArgs (top 10)) (defBody (top 10)) (defScope (top 10)) .none kV8 dc8 pm8 an8 cd8 ct8), sl8⟩) (c8 : PySem.W.codeIn K cd8 "_law_deal" = true) (k8 : PySem.W.keepIn K (.ref f8) = true)
    (a9 : PySem.W.nsIn K mainGlobals "_law_any" = some (some (.ref f9))) (l9 : K.lookup f9 = some ⟨oc9, od9, .func (PySem.W.fnOf "_law_any" "_law_any" (defArgs (top 11)) (defBody (top 11)) (defScope (top 11)) .none kV9 dc9 pm9 an9 cd9 ct9), sl9⟩) (c9 : PySem.W.codeIn K cd9 "_law_any" = true) (k9 : PySem.W.keepIn K (.ref f9) = true)
    (a10 : PySem.W.nsIn K mainGlobals "_law_is_kind" = some (some (.ref f10))) (l10 : K.lookup f10 = some ⟨oc10, od10, .func (PySem.W.fnOf "_law_is_kind" "_law_is_kind" (defArgs (top 13)) (defBody (top 13)) (defScope (top 13)) .none kV10 dc10 pm10 an10 cd10 ct10), sl10⟩) (c10 : PySem.W.codeIn K cd10 "_law_is_kind" = true) (k10 : PySem.W.keepIn K (.ref f10) = true)
    (a11 : PySem.W.nsIn K mainGlobals "_law_same" = some (some (.ref f11))) (l11 : K.lookup f11 = some ⟨oc11, od11, .func (PySem.W.fnOf "_law_same" "_law_same" (defArgs (top 14)) (defBody (top 14)) (defScope (top 14)) .none kV11 dc11 pm11 an11 cd11 ct11), sl11⟩) (c11 : PySem.W.codeIn K cd11 "_law_same" = true) (k11 : PySem.W.keepIn K (.ref f11) = true)
    (a12 : PySem.W.nsIn K mainGlobals "_law_all" = some (some (.ref f12))) (l12 : K.lookup f12 = some ⟨oc12, od12, .func (PySem.W.fnOf "_law_all" "_law_all" (defArgs (top 15)) (defBody (top 15)) (defScope (top 15)) .none kV12 dc12 pm12 an12 cd12 ct12), sl12⟩) (c12 : PySem.W.codeIn K cd12 "_law_all" = true) (k12 : PySem.W.keepIn K (.ref f12) = true)
    (a13 : PySem.W.nsIn K mainGlobals "_law_of" = some (some (.ref f13))) (l13 : K.lookup f13 = some ⟨oc13, od13, .func (PySem.W.fnOf "_law_of" "_law_of" (defArgs (top 12)) (defBody (top 12)) (defScope (top 12)) .none kV13 dc13 pm13 an13 cd13 ct13), sl13⟩) (c13 : PySem.W.codeIn K cd13 "_law_of" = true) (k13 : PySem.W.keepIn K (.ref f13) = true)
    (a14 : PySem.W.nsIn K mainGlobals "_law_scale" = some (some (.ref f14))) (l14 : K.lookup f14 = some ⟨oc14, od14, .func (PySem.W.fnOf "_law_scale" "_law_scale" (defArgs (top 16)) (defBody (top 16)) (defScope (top 16)) .none kV14 dc14 pm14 an14 cd14 ct14), sl14⟩) (c14 : PySem.W.codeIn K cd14 "_law_scale" = true) (k14 : PySem.W.keepIn K (.ref f14) = true)
    (a15 : PySem.W.nsIn K mainGlobals "_law_digit" = some (some (.ref f15))) (l15 : K.lookup f15 = some ⟨oc15, od15, .func (PySem.W.fnOf "_law_digit" "_law_digit" (defArgs (top 17)) (defBody (top 17)) (defScope (top 17)) .none kV15 dc15 pm15 an15 cd15 ct15), sl15⟩) (c15 : PySem.W.codeIn K cd15 "_law_digit" = true) (k15 : PySem.W.keepIn K (.ref f15) = true)
    (a16 : PySem.W.nsIn K mainGlobals "_law_digits" = some (some (.ref f16))) (l16 : K.lookup f16 = some ⟨oc16, od16, .func (PySem.W.fnOf "_law_digits" "_law_digits" (defArgs (top 18)) (defBody (top 18)) (defScope (top 18)) .none kV16 dc16 pm16 an16 cd16 ct16), sl16⟩) (c16 : PySem.W.codeIn K cd16 "_law_digits" = true) (k16 : PySem.W.keepIn K (.ref f16) = true)
    (a17 : PySem.W.nsIn K mainGlobals "_law_row" = some (some (.ref f17))) (l17 : K.lookup f17 = some ⟨oc17, od17, .func (PySem.W.fnOf "_law_row" "_law_row" (defArgs (top 19)) (defBody (top 19)) (defScope (top 19)) .none kV17 dc17 pm17 an17 cd17 ct17), sl17⟩) (c17 : PySem.W.codeIn K cd17 "_law_row" = true) (k17 : PySem.W.keepIn K (.ref f17) = true)
    (a18 : PySem.W.nsIn K mainGlobals "_law_place" = some (some (.ref f18))) (l18 : K.lookup f18 = some ⟨oc18, od18, .func (PySem.W.fnOf "_law_place" "_law_place" (defArgs (top 20)) (defBody (top 20)) (defScope (top 20)) .none kV18 dc18 pm18 an18 cd18 ct18), sl18⟩) (c18 : PySem.W.codeIn K cd18 "_law_place" = true) (k18 : PySem.W.keepIn K (.ref f18) = true)
    (a19 : PySem.W.nsIn K mainGlobals "_law_many" = some (some (.ref f19))) (l19 : K.lookup f19 = some ⟨oc19, od19, .func (PySem.W.fnOf "_law_many" "_law_many" (defArgs (top 21)) (defBody (top 21)) (defScope (top 21)) .none kV19 dc19 pm19 an19 cd19 ct19), sl19⟩) (c19 : PySem.W.codeIn K cd19 "_law_many" = true) (k19 : PySem.W.keepIn K (.ref f19) = true)
    (a20 : PySem.W.nsIn K mainGlobals "_law_plain" = some (some (.ref f20))) (l20 : K.lookup f20 = some ⟨oc20, od20, .func (PySem.W.fnOf "_law_plain" "_law_plain" (defArgs (top 22)) (defBody (top 22)) (defScope (top 22)) .none kV20 dc20 pm20 an20 cd20 ct20), sl20⟩) (c20 : PySem.W.codeIn K cd20 "_law_plain" = true) (k20 : PySem.W.keepIn K (.ref f20) = true)
    (a21 : PySem.W.nsIn K mainGlobals "_law_is_pair" = some (some (.ref f21))) (l21 : K.lookup f21 = some ⟨oc21, od21, .func (PySem.W.fnOf "_law_is_pair" "_law_is_pair" (defArgs (top 23)) (defBody (top 23)) (defScope (top 23)) .none kV21 dc21 pm21 an21 cd21 ct21), sl21⟩) (c21 : PySem.W.codeIn K cd21 "_law_is_pair" = true) (k21 : PySem.W.keepIn K (.ref f21) = true)
    (a22 : PySem.W.nsIn K mainGlobals "_law_told_otherwise" = some (some (.ref f22))) (l22 : K.lookup f22 = some ⟨oc22, od22, .func (PySem.W.fnOf "_law_told_otherwise" "_law_told_otherwise" (defArgs (top 24)) (defBody (top 24)) (defScope (top 24)) .none kV22 dc22 pm22 an22 cd22 ct22), sl22⟩) (c22 : PySem.W.codeIn K cd22 "_law_told_otherwise" = true) (k22 : PySem.W.keepIn K (.ref f22) = true)
    (a23 : PySem.W.nsIn K mainGlobals "law" = some (some (.ref f23))) (l23 : K.lookup f23 = some ⟨oc23, od23, .func (PySem.W.fnOf "law" "law" (defArgs (top 25)) (defBody (top 25)) (defScope (top 25)) .none kV23 dc23 pm23 an23 cd23 ct23), sl23⟩) (c23 : PySem.W.codeIn K cd23 "law" = true) (k23 : PySem.W.keepIn K (.ref f23) = true)
    (z_abs : PySem.W.nsIn K mainGlobals "abs" = some none)
    (z_bool : PySem.W.nsIn K mainGlobals "bool" = some none)
    (z_dict : PySem.W.nsIn K mainGlobals "dict" = some none)
    (z_int : PySem.W.nsIn K mainGlobals "int" = some none)
    (z_isinstance : PySem.W.nsIn K mainGlobals "isinstance" = some none)
    (z_len : PySem.W.nsIn K mainGlobals "len" = some none)
    (z_list : PySem.W.nsIn K mainGlobals "list" = some none)
    (z_max : PySem.W.nsIn K mainGlobals "max" = some none)
    (z_range : PySem.W.nsIn K mainGlobals "range" = some none)
    (z_str : PySem.W.nsIn K mainGlobals "str" = some none)
    (z_tuple : PySem.W.nsIn K mainGlobals "tuple" = some none)
    (z_zip : PySem.W.nsIn K mainGlobals "zip" = some none)
    : ∃ fd : FuncData, (∀ (s : Shared) (v : Value), BindsTo s fd ⟨[v], []⟩ [("script", v)]) ∧ ∀ base : Heap, K.In base → base.Ns mainGlobals mg → FnOk l.prog w K mg base (L2.CX l.prog w) 5 fa fd ["script"] (spTop K) := by
  have e := hfa.symm.trans (PySem.W.mg_of X G a23)
  cases e
  have b_abs := PySem.W.mg_none_of X G z_abs
  have b_bool := PySem.W.mg_none_of X G z_bool
  have b_dict := PySem.W.mg_none_of X G z_dict
  have b_int := PySem.W.mg_none_of X G z_int
  have b_isinstance := PySem.W.mg_none_of X G z_isinstance
  have b_len := PySem.W.mg_none_of X G z_len
  have b_list := PySem.W.mg_none_of X G z_list
  have b_max := PySem.W.mg_none_of X G z_max
  have b_range := PySem.W.mg_none_of X G z_range
  have b_str := PySem.W.mg_none_of X G z_str
  have b_tuple := PySem.W.mg_none_of X G z_tuple
  have b_zip := PySem.W.mg_none_of X G z_zip
  have F0 := fun_mk (st := top 1) l0 c0 k0
  have B0 := F0.binds (ps := ["looped", "place"]) fun _ _ _ _ _ _ us hl => match us, hl with | [_, _], _ => rfl
  have F1 := fun_mk (st := top 2) l1 c1 k1
  have B1 := F1.binds (ps := ["row", "place"]) fun _ _ _ _ _ _ us hl => match us, hl with | [_, _], _ => rfl
  have F2 := fun_mk (st := top 3) l2 c2 k2
  have B2 := F2.binds (ps := ["row", "many"]) fun _ _ _ _ _ _ us hl => match us, hl with | [_, _], _ => rfl
  have F3 := fun_mk (st := top 4) l3 c3 k3
  have B3 := F3.binds (ps := ["loop"]) fun _ _ _ _ _ _ us hl => match us, hl with | [_], _ => rfl
  have F4 := fun_mk (st := top 5) l4 c4 k4
  have B4 := F4.binds (ps := ["row"]) fun _ _ _ _ _ _ us hl => match us, hl with | [_], _ => rfl
  have F5 := fun_mk (st := top 6) l5 c5 k5
  have B5 := F5.binds (ps := ["one", "other"]) fun _ _ _ _ _ _ us hl => match us, hl with | [_, _], _ => rfl
  have F6 := fun_mk (st := top 7) l6 c6 k6
  have B6 := F6.binds (ps := ["row", "many"]) fun _ _ _ _ _ _ us hl => match us, hl with | [_, _], _ => rfl
  have F7 := fun_mk (st := top 8) l7 c7 k7
  have B7 := F7.binds (ps := ["word", "row"]) fun _ _ _ _ _ _ us hl => match us, hl with | [_, _], _ => rfl
  have F8 := fun_mk (st := top 10) l8 c8 k8
  have B8 := F8.binds (ps := ["script", "salt"]) fun _ _ _ _ _ _ us hl => match us, hl with | [_, _], _ => rfl
  have F9 := fun_mk (st := top 11) l9 c9 k9
  have B9 := F9.binds (ps := ["deal", "bound"]) fun _ _ _ _ _ _ us hl => match us, hl with | [_, _], _ => rfl
  have F10 := fun_mk (st := top 13) l10 c10 k10
  have B10 := F10.binds (ps := ["reply", "due"]) fun _ _ _ _ _ _ us hl => match us, hl with | [_, _], _ => rfl
  have F11 := fun_mk (st := top 14) l11 c11 k11
  have B11 := F11.binds (ps := ["reply", "due"]) fun _ _ _ _ _ _ us hl => match us, hl with | [_, _], _ => rfl
  have F12 := fun_mk (st := top 15) l12 c12 k12
  have B12 := F12.binds (ps := ["pairs"]) fun _ _ _ _ _ _ us hl => match us, hl with | [_], _ => rfl
  have F13 := fun_mk (st := top 12) l13 c13 k13
  have B13 := F13.binds (ps := ["deal", "some"]) fun _ _ _ _ _ _ us hl => match us, hl with | [_, _], _ => rfl
  have F14 := fun_mk (st := top 16) l14 c14 k14
  have B14 := F14.binds (ps := ["deal"]) fun _ _ _ _ _ _ us hl => match us, hl with | [_], _ => rfl
  have F15 := fun_mk (st := top 17) l15 c15 k15
  have B15 := F15.binds (ps := ["deal", "most"]) fun _ _ _ _ _ _ us hl => match us, hl with | [_, _], _ => rfl
  have F16 := fun_mk (st := top 18) l16 c16 k16
  have B16 := F16.binds (ps := ["deal", "most", "many"]) fun _ _ _ _ _ _ us hl => match us, hl with | [_, _, _], _ => rfl
  have F17 := fun_mk (st := top 19) l17 c17 k17
  have B17 := F17.binds (ps := ["deal", "most", "head", "loop"]) fun _ _ _ _ _ _ us hl => match us, hl with | [_, _, _, _], _ => rfl
  have F18 := fun_mk (st := top 20) l18 c18 k18
  have B18 := F18.binds (ps := ["row", "place"]) fun _ _ _ _ _ _ us hl => match us, hl with | [_, _], _ => rfl
  have F19 := fun_mk (st := top 21) l19 c19 k19
  have B19 := F19.binds (ps := ["row", "many"]) fun _ _ _ _ _ _ us hl => match us, hl with | [_, _], _ => rfl
  have F20 := fun_mk (st := top 22) l20 c20 k20
  have B20 := F20.binds (ps := ["row"]) fun _ _ _ _ _ _ us hl => match us, hl with | [_], _ => rfl
  have F21 := fun_mk (st := top 23) l21 c21 k21
  have B21 := F21.binds (ps := ["reply"]) fun _ _ _ _ _ _ us hl => match us, hl with | [_], _ => rfl
  have F22 := fun_mk (st := top 24) l22 c22 k22
  have B22 := F22.binds (ps := ["deal", "row"]) fun _ _ _ _ _ _ us hl => match us, hl with | [_, _], _ => rfl
  have F23 := fun_mk (st := top 25) l23 c23 k23
  refine ⟨PySem.W.fnOf "law" "law" (defArgs (top 25)) (defBody (top 25)) (defScope (top 25)) .none kV23 dc23 pm23 an23 cd23 ct23, fun s v => .of_eq rfl, fun base _ _ => ?_⟩
  have C_thing_at : CalD l.prog w K mg base 1 "thing_at" ["looped", "place"] (top 1) S_thing_at := cal_mk F0 (ok_thing_at (P := l.prog) (w := w) (base := base) F0 b_len ) (PySem.W.mg_of X G a0) B0
  have C_digit_at : CalD l.prog w K mg base 2 "digit_at" ["row", "place"] (top 2) S_thing_at := cal_mk F1 (ok_digit_at (P := l.prog) (w := w) (base := base) F1  C_thing_at) (PySem.W.mg_of X G a1) B1
  have C_beginning : CalD l.prog w K mg base 2 "beginning" ["row", "many"] (top 3) S_beginning := cal_mk F2 (ok_beginning (P := l.prog) (w := w) (base := base) F2 b_range b_tuple C_thing_at) (PySem.W.mg_of X G a2) B2
  have C_shortest_loop : CalD l.prog w K mg base 1 "shortest_loop" ["loop"] (top 4) S_shortest_loop := cal_mk F3 (ok_shortest_loop (P := l.prog) (w := w) (base := base) F3 b_len b_range ) (PySem.W.mg_of X G a3) B3
  have C_plain_row : CalD l.prog w K mg base 2 "plain_row" ["row"] (top 5) S_plain_row := cal_mk F4 (ok_plain_row (P := l.prog) (w := w) (base := base) F4  C_shortest_loop) (PySem.W.mg_of X G a4) B4
  have C_same_row : CalD l.prog w K mg base 3 "same_row" ["one", "other"] (top 6) S_same_row := cal_mk F5 (ok_same_row (P := l.prog) (w := w) (base := base) F5  C_plain_row) (PySem.W.mg_of X G a5) B5
  have C_later : CalD l.prog w K mg base 3 "later" ["row", "many"] (top 7) S_later := cal_mk F6 (ok_later (P := l.prog) (w := w) (base := base) F6 b_len C_plain_row) (PySem.W.mg_of X G a6) B6
  have C_put_ahead : CalD l.prog w K mg base 3 "put_ahead" ["word", "row"] (top 8) S_put_ahead := cal_mk F7 (ok_put_ahead (P := l.prog) (w := w) (base := base) F7 b_tuple C_plain_row) (PySem.W.mg_of X G a7) B7
  have C__law_deal : CalD l.prog w K mg base 1 "_law_deal" ["script", "salt"] (top 10) S_deal := cal_mk F8 (ok__law_deal (P := l.prog) (w := w) (base := base) F8 b_abs b_int ) (PySem.W.mg_of X G a8) B8
  have C__law_any : CalD l.prog w K mg base 1 "_law_any" ["deal", "bound"] (top 11) S_any := cal_mk F9 (ok__law_any (P := l.prog) (w := w) (base := base) F9 b_int b_len ) (PySem.W.mg_of X G a9) B9
  have C__law_is_kind : CalD l.prog w K mg base 1 "_law_is_kind" ["reply", "due"] (top 13) S__law_is_kind := cal_mk F10 (ok__law_is_kind (P := l.prog) (w := w) (base := base) F10 b_bool b_int b_isinstance b_str ) (PySem.W.mg_of X G a10) B10
  have C__law_same : CalD l.prog w K mg base 2 "_law_same" ["reply", "due"] (top 14) S__law_same := cal_mk F11 (ok__law_same (P := l.prog) (w := w) (base := base) F11 b_dict b_isinstance b_len b_list b_tuple b_zip C__law_is_kind) (PySem.W.mg_of X G a11) B11
  have C__law_all : CalD l.prog w K mg base 3 "_law_all" ["pairs"] (top 15) S__law_all := cal_mk F12 (ok__law_all (P := l.prog) (w := w) (base := base) F12 b_len C__law_same) (PySem.W.mg_of X G a12) B12
  have C__law_of : CalD l.prog w K mg base 2 "_law_of" ["deal", "some"] (top 12) S__law_of := cal_mk F13 (ok__law_of (P := l.prog) (w := w) (base := base) F13 b_len C__law_any) (PySem.W.mg_of X G a13) B13
  have C__law_scale : CalD l.prog w K mg base 3 "_law_scale" ["deal"] (top 16) S__law_scale := cal_mk F14 (ok__law_scale (P := l.prog) (w := w) (base := base) F14  C__law_any C__law_of) (PySem.W.mg_of X G a14) B14
  have C__law_digit : CalD l.prog w K mg base 2 "_law_digit" ["deal", "most"] (top 17) S__law_digit := cal_mk F15 (ok__law_digit (P := l.prog) (w := w) (base := base) F15  C__law_any) (PySem.W.mg_of X G a15) B15
  have C__law_digits : CalD l.prog w K mg base 3 "_law_digits" ["deal", "most", "many"] (top 18) S__law_digits := cal_mk F16 (ok__law_digits (P := l.prog) (w := w) (base := base) F16 b_range b_tuple C__law_digit) (PySem.W.mg_of X G a16) B16
  have C__law_row : CalD l.prog w K mg base 4 "_law_row" ["deal", "most", "head", "loop"] (top 19) S__law_row := cal_mk F17 (ok__law_row (P := l.prog) (w := w) (base := base) F17  C__law_any C__law_digits) (PySem.W.mg_of X G a17) B17
  have C__law_place : CalD l.prog w K mg base 1 "_law_place" ["row", "place"] (top 20) S_thing_at := cal_mk F18 (ok__law_place (P := l.prog) (w := w) (base := base) F18 b_len ) (PySem.W.mg_of X G a18) B18
  have C__law_many : CalD l.prog w K mg base 2 "_law_many" ["row", "many"] (top 21) S_beginning := cal_mk F19 (ok__law_many (P := l.prog) (w := w) (base := base) F19 b_range b_tuple C__law_place) (PySem.W.mg_of X G a19) B19
  have C__law_plain : CalD l.prog w K mg base 1 "_law_plain" ["row"] (top 22) S_plain_row := cal_mk F20 (ok__law_plain (P := l.prog) (w := w) (base := base) F20 b_int b_len b_range ) (PySem.W.mg_of X G a20) B20
  have C__law_is_pair : CalD l.prog w K mg base 1 "_law_is_pair" ["reply"] (top 23) S__law_is_pair := cal_mk F21 (ok__law_is_pair (P := l.prog) (w := w) (base := base) F21 b_isinstance b_len b_tuple ) (PySem.W.mg_of X G a21) B21
  have C__law_told_otherwise : CalD l.prog w K mg base 2 "_law_told_otherwise" ["deal", "row"] (top 24) S__law_told_otherwise := cal_mk F22 (ok__law_told_otherwise (P := l.prog) (w := w) (base := base) F22 b_len b_max b_range C__law_any) (PySem.W.mg_of X G a22) B22
  exact top_ok (fun ns Q E h q => ⟨ns, rfl, h, q⟩) (ok_law (P := l.prog) (w := w) (base := base) F23 b_len b_range b_tuple C_digit_at C_beginning C_plain_row C_same_row C_later C_put_ahead C__law_deal C__law_any C__law_all C__law_scale C__law_digits C__law_row C__law_place C__law_many C__law_plain C__law_is_pair C__law_told_otherwise)
theorem walk {l : PySem.W.OpenLaw} {q : Program} {loose : List Str} {XP : (Str → Option Value) → Heap → Prop} {YP : World → Heap → Prop} {d : DefRec} {K : Params → PySem.W.Frag} (hn : l.most = some 63) (hdf : d.params.defaults = [])
    (hY : ∀ (w : World) (h : Heap), YP w h → (K w.params).In h)
    (F : ∀ (w : World) (mg : Str → Option Value) (fa : Addr) (h : Heap), (K w.params).In h → h.Ns mainGlobals mg → mg d.name = some (.ref fa) →
      ∃ fd : FuncData, (∀ (s : Shared) (u : Value), BindsTo s fd ⟨[u], []⟩ [("script", u)]) ∧ ∀ base : Heap, (K w.params).In base → base.Ns mainGlobals mg → FnOk l.prog w (K w.params) mg base (L2.CX l.prog w) 5 fa fd ["script"] (spTop (K w.params))) :
    PySem.W.WalkO q loose XP YP l.row.toRowW d [] (fun f vs => PySem.call f vs) :=
  L2.walk_of (n := 63) (k := 5) (x := "script") (CX := fun w => L2.CX l.prog w) (sp := fun w => spTop (K w.params)) hn (by decide) hdf ⟨rfl, by decide, by decide⟩ hY F (fun _ _ a ns hl ho hS => ⟨a, ns, rfl, hl, ho, hS, fun _ => rfl⟩) fun _ _ _ _ _ z => noCX z
end Pd
open PySem PySem.W PyProof.Rows
set_option maxRecDepth 100000 in
set_option maxHeartbeats 0 in
theorem PySem.Challenge.cw_loopstell_k05_whole_one_endless_row_in_m_holds : PySem.Challenge.rw_loopstell_k05_whole_one_endless_row_in_m.Holds := by
  w_on; o_law; k_head; (case hw => w_witness2)
  k_fill
  refine Pd.walk (l := PySem.Challenge.rw_loopstell_k05_whole_one_endless_row_in_m) rfl rfl (fun w h Y => PySem.W.kIn_of Y) ?F
  case F =>
    intro w mg fa h KX G hmg
    refine' Pd.all_mk KX G hmg ?a0 ?l0 ?c0 ?k0 ?a1 ?l1 ?c1 ?k1 ?a2 ?l2 ?c2 ?k2 ?a3 ?l3 ?c3 ?k3 ?a4 ?l4 ?c4 ?k4 ?a5 ?l5 ?c5 ?k5 ?a6 ?l6 ?c6 ?k6 ?a7 ?l7 ?c7 ?k7 ?a8 ?l8 ?c8 ?k8 ?a9 ?l9 ?c9 ?k9 ?a10 ?l10 ?c10 ?k10 ?a11 ?l11 ?c11 ?k11 ?a12 ?l12 ?c12 ?k12 ?a13 ?l13 ?c13 ?k13 ?a14 ?l14 ?c14 ?k14 ?a15 ?l15 ?c15 ?k15 ?a16 ?l16 ?c16 ?k16 ?a17 ?l17 ?c17 ?k17 ?a18 ?l18 ?c18 ?k18 ?a19 ?l19 ?c19 ?k19 ?a20 ?l20 ?c20 ?k20 ?a21 ?l21 ?c21 ?k21 ?a22 ?l22 ?c22 ?k22 ?a23 ?l23 ?c23 ?k23 ?z_abs ?z_bool ?z_dict ?z_int ?z_isinstance ?z_len ?z_list ?z_max ?z_range ?z_str ?z_tuple ?z_zip
    (case a0 => k_is)
    (case l0 => k_is)
    (case c0 => k_is)
    (case k0 => k_is)
    (case a1 => k_is)
    (case l1 => k_is)
    (case c1 => k_is)
    (case k1 => k_is)
    (case a2 => k_is)
    (case l2 => k_is)
    (case c2 => k_is)
    (case k2 => k_is)
    (case a3 => k_is)
    (case l3 => k_is)
    (case c3 => k_is)
    (case k3 => k_is)
    (case a4 => k_is)
    (case l4 => k_is)
    (case c4 => k_is)
    (case k4 => k_is)
    (case a5 => k_is)
    (case l5 => k_is)
    (case c5 => k_is)
    (case k5 => k_is)
    (case a6 => k_is)
    (case l6 => k_is)
    (case c6 => k_is)
    (case k6 => k_is)
    (case a7 => k_is)
    (case l7 => k_is)
    (case c7 => k_is)
    (case k7 => k_is)
    (case a8 => k_is)
    (case l8 => k_is)
    (case c8 => k_is)
    (case k8 => k_is)
    (case a9 => k_is)
    (case l9 => k_is)
    (case c9 => k_is)
    (case k9 => k_is)
    (case a10 => k_is)
    (case l10 => k_is)
    (case c10 => k_is)
    (case k10 => k_is)
    (case a11 => k_is)
    (case l11 => k_is)
    (case c11 => k_is)
    (case k11 => k_is)
    (case a12 => k_is)
    (case l12 => k_is)
    (case c12 => k_is)
    (case k12 => k_is)
    (case a13 => k_is)
    (case l13 => k_is)
    (case c13 => k_is)
    (case k13 => k_is)
    (case a14 => k_is)
    (case l14 => k_is)
    (case c14 => k_is)
    (case k14 => k_is)
    (case a15 => k_is)
    (case l15 => k_is)
    (case c15 => k_is)
    (case k15 => k_is)
    (case a16 => k_is)
    (case l16 => k_is)
    (case c16 => k_is)
    (case k16 => k_is)
    (case a17 => k_is)
    (case l17 => k_is)
    (case c17 => k_is)
    (case k17 => k_is)
    (case a18 => k_is)
    (case l18 => k_is)
    (case c18 => k_is)
    (case k18 => k_is)
    (case a19 => k_is)
    (case l19 => k_is)
    (case c19 => k_is)
    (case k19 => k_is)
    (case a20 => k_is)
    (case l20 => k_is)
    (case c20 => k_is)
    (case k20 => k_is)
    (case a21 => k_is)
    (case l21 => k_is)
    (case c21 => k_is)
    (case k21 => k_is)
    (case a22 => k_is)
    (case l22 => k_is)
    (case c22 => k_is)
    (case k22 => k_is)
    (case a23 => k_is)
    (case l23 => k_is)
    (case c23 => k_is)
    (case k23 => k_is)
    (case z_abs => k_is)
    (case z_bool => k_is)
    (case z_dict => k_is)
    (case z_int => k_is)
    (case z_isinstance => k_is)
    (case z_len => k_is)
    (case z_list => k_is)
    (case z_max => k_is)
    (case z_range => k_is)
    (case z_str => k_is)
    (case z_tuple => k_is)
    (case z_zip => k_is)
