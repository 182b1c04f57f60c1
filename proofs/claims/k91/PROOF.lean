import PyProof.Rows.All
import Wide.All
import OpenK.AllK
import Wide.FinOn
import HandS.ForMost
import HandS.ForExc
import HandS.WideBits
import HandS.CallSlots
import HandS.Lambda
import HandS.TupAny
import HandS.Style
import HandS.IsInst
import HandS.Text
import HandS.EndOwn
import KE.KNestM
import KE.BitLaws
import PySem.Challenge.RW_paperark_k91_trees_of_sums
set_option Elab.async false
set_option linter.all false
set_option maxRecDepth 100000
set_option maxHeartbeats 2000000
/-! Mv0: values with value semantics over the hand layer: data, slots, results, the judgements. -/
namespace Mv
open PySem PySem.Spec PyProof.Rows L2

/-! ### data -/
inductive D where
  | non | bl (b : Bool) | int (i : Int) | str (x : Str)
  | lst (xs : List D) | tup (xs : List D) | dic (kvs : List (D × D)) | obj (c : Str) (fs : List (Str × D)) | raw (v : V)
  /-- a list, a tuple that is read alone: locked, or of the written part -/
  | rls (xs : List D) | rtp (xs : List D)

/-- what an object that is being changed holds -/
inductive MO where
  | lst (xs : List D) | dK (kvs : List (D × D)) | dT (kvs : List (D × D)) | ins (c : Str) (fs : List (Str × D))
def MO.d : MO → D
  | .lst xs => .lst xs | .dK kvs => .dic kvs | .dT kvs => .dic kvs | .ins c fs => .obj c fs

/-- a slot: nothing is known; data; an object of this frame's own -/
inductive Sl where
  | no | fz (d : D) | ow (o : MO)
abbrev S := List Sl

inductive R (α : Type) where
  | ok (a : α) (s : S) | ex (c : Str) (d : D) (s : S) | bad
/-- what of data a list, a tuple is -/
def D.seqL : D → Option (List D)
  | .lst xs => some xs | .rls xs => some xs | _ => none
def D.seqT : D → Option (List D)
  | .tup xs => some xs | .rtp xs => some xs | _ => none
def R.bind {α β : Type} (m : R α) (f : α → S → R β) : R β := match m with
  | .ok a s => f a s
  | .ex c d s => .ex c d s
  | .bad => .bad
@[simp] theorem R.bind_ok {α β : Type} (a : α) (s : S) (f : α → S → R β) : (R.ok a s).bind f = f a s := rfl
@[simp] theorem R.bind_ex {α β : Type} (c : Str) (d : D) (s : S) (f : α → S → R β) : (R.ex c d s : R α).bind f = .ex c d s := rfl
@[simp] theorem R.bind_bad {α β : Type} (f : α → S → R β) : (R.bad : R α).bind f = .bad := rfl
abbrev M (α : Type) := S → R α

/-- the written part and the module's names -/
structure En where
  K : PySem.W.Frag
  mg : Str → Option Value
  /-- the tables of code objects that lambdas are laid in -/
  T : List (Addr × Str)
/-- a table of code objects -/
def isTbl : HO → Bool
  | .tbl _ => true
  | _ => false

/-- keys as data -/
def kD : Key → D
  | .inl i => .int i
  | .inr x => .str x

mutual
/-- the value v stands for the data d, in the heap of data W -/
inductive Rep (G : En) (W : Hp) : V → D → Prop
  | non : Rep G W .non .non
  | bl (b : Bool) : Rep G W (.bl b) (.bl b)
  | int (i : Int) : Rep G W (.int i) (.int i)
  | str (x : Str) : Rep G W (.str x) (.str x)
  | lst {a : Addr} {vs : List V} {ds : List D} : W a = some (.lst vs) → Reps G W vs ds → Rep G W (.ref a) (.lst ds)
  | tup {a : Addr} {vs : List V} {ds : List D} : W a = some (.tup vs) → Reps G W vs ds → Rep G W (.ref a) (.tup ds)
  | rls {a : Addr} {vs : List V} {ds : List D} : SqL G.K W a vs → Reps G W vs ds → Rep G W (.ref a) (.rls ds)
  | rtp {a : Addr} {vs : List V} {ds : List D} : SqT G.K W a vs → Reps G W vs ds → Rep G W (.ref a) (.rtp ds)
  | dK {a : Addr} {kvs : List (Key × V)} {ds : List (D × D)} : W a = some (.dK kvs) → ds.map Prod.fst = kvs.map (fun p => kD p.1) → Reps G W (kvs.map Prod.snd) (ds.map Prod.snd) → Rep G W (.ref a) (.dic ds)
  | dT {a : Addr} {kvs : List (List Key × V)} {ds : List (D × D)} : W a = some (.dT kvs) → ds.map Prod.fst = kvs.map (fun p => .tup (p.1.map kD)) → Reps G W (kvs.map Prod.snd) (ds.map Prod.snd) → Rep G W (.ref a) (.dic ds)
  | ins {a C dx : Addr} {c : Str} {fs : List (Str × V)} {ds : List (Str × D)} : G.mg c = some (.ref C) → W a = some (.ins C dx fs) → ds.map Prod.fst = fs.map Prod.fst → Reps G W (fs.map Prod.snd) (ds.map Prod.snd) → Rep G W (.ref a) (.obj c ds)
  | raw (v : V) : Rep G W v (.raw v)
inductive Reps (G : En) (W : Hp) : List V → List D → Prop
  | nil : Reps G W [] []
  | cons {v : V} {vs : List V} {d : D} {ds : List D} : Rep G W v d → Reps G W vs ds → Reps G W (v :: vs) (d :: ds)
end

/-- an object that stands in the heap holds o -/
inductive RepO (G : En) (W : Hp) : HO → MO → Prop
  | lst {vs : List V} {ds : List D} : Reps G W vs ds → RepO G W (.lst vs) (.lst ds)
  | dK {kvs : List (Key × V)} {ds : List (D × D)} : ds.map Prod.fst = kvs.map (fun p => kD p.1) → Reps G W (kvs.map Prod.snd) (ds.map Prod.snd) → RepO G W (.dK kvs) (.dK ds)
  | dT {kvs : List (List Key × V)} {ds : List (D × D)} : ds.map Prod.fst = kvs.map (fun p => .tup (p.1.map kD)) → Reps G W (kvs.map Prod.snd) (ds.map Prod.snd) → RepO G W (.dT kvs) (.dT ds)
  | ins {C dx : Addr} {c : Str} {fs : List (Str × V)} {ds : List (Str × D)} : G.mg c = some (.ref C) → ds.map Prod.fst = fs.map Prod.fst → Reps G W (fs.map Prod.snd) (ds.map Prod.snd) → RepO G W (.ins C dx fs) (.ins c ds)

section
variable {G : En} {W W' H H' : Hp}
theorem sqT_mono {K : PySem.W.Frag} {a : Addr} {xs : List V} (e : Same W W') (h : SqT K W a xs) : SqT K W' a xs := by
  rcases h with (h | ⟨o, h⟩) | h
  · exact .inl (.inl (e _ _ h))
  · exact .inl (.inr ⟨o, e _ _ h⟩)
  · exact .inr h
mutual
theorem Rep.mono (e : Same W W') : ∀ {v : V} {d : D}, Rep G W v d → Rep G W' v d
  | _, _, .non => .non
  | _, _, .bl b => .bl b
  | _, _, .int i => .int i
  | _, _, .str x => .str x
  | _, _, .lst h r => .lst (e _ _ h) (Reps.mono e r)
  | _, _, .tup h r => .tup (e _ _ h) (Reps.mono e r)
  | _, _, .rls h r => .rls (e.seq h) (Reps.mono e r)
  | _, _, .rtp h r => .rtp (sqT_mono e h) (Reps.mono e r)
  | _, _, .dK h k r => .dK (e _ _ h) k (Reps.mono e r)
  | _, _, .dT h k r => .dT (e _ _ h) k (Reps.mono e r)
  | _, _, .ins g h k r => .ins g (e _ _ h) k (Reps.mono e r)
  | _, _, .raw v => .raw v
theorem Reps.mono (e : Same W W') : ∀ {vs : List V} {ds : List D}, Reps G W vs ds → Reps G W' vs ds
  | _, _, .nil => .nil
  | _, _, .cons h r => .cons (Rep.mono e h) (Reps.mono e r)
end
theorem RepO.mono (e : Same W W') {u : HO} {o : MO} (h : RepO G W u o) : RepO G W' u o := by
  cases h with
  | lst r => exact .lst (r.mono e)
  | dK k r => exact .dK k (r.mono e)
  | dT k r => exact .dT k (r.mono e)
  | ins g k r => exact .ins g k (r.mono e)
theorem RepO.rep {u : HO} {o : MO} {a : Addr} (h : RepO G W u o) (ha : W a = some u) : Rep G W (.ref a) o.d := by
  cases h with
  | lst r => exact .lst ha r
  | dK k r => exact .dK ha k r
  | dT k r => exact .dT ha k r
  | ins g k r => exact .ins g ha k r
theorem Reps.length : ∀ {vs : List V} {ds : List D}, Reps G W vs ds → vs.length = ds.length
  | _, _, .nil => rfl
  | _, _, .cons _ r => by simp [Reps.length r]
theorem Reps.get : ∀ {vs : List V} {ds : List D} {i : Nat} {d : D}, Reps G W vs ds → ds[i]? = some d → ∃ v, vs[i]? = some v ∧ Rep G W v d
  | _, _, _, _, .nil, e => by simp at e
  | _, _, 0, _, .cons h _, e => by simp at e; subst e; exact ⟨_, rfl, h⟩
  | _, _, i + 1, d, .cons _ r, e => by
    obtain ⟨v, h1, h2⟩ := Reps.get (i := i) (d := d) r (by simpa using e)
    exact ⟨v, by simpa using h1, h2⟩
theorem Reps.getV : ∀ {vs : List V} {ds : List D} {i : Nat} {v : V}, Reps G W vs ds → vs[i]? = some v → ∃ d, ds[i]? = some d ∧ Rep G W v d
  | _, _, _, _, .nil, e => by simp at e
  | _, _, 0, _, .cons h _, e => by simp at e; subst e; exact ⟨_, rfl, h⟩
  | _, _, i + 1, v, .cons _ r, e => by
    obtain ⟨d, h1, h2⟩ := Reps.getV (i := i) (v := v) r (by simpa using e)
    exact ⟨d, by simpa using h1, h2⟩
theorem Reps.append : ∀ {vs ws : List V} {ds es : List D}, Reps G W vs ds → Reps G W ws es → Reps G W (vs ++ ws) (ds ++ es)
  | _, _, _, _, .nil, r => r
  | _, _, _, _, .cons h t, r => .cons h (Reps.append t r)
theorem Reps.take : ∀ {vs : List V} {ds : List D} (n : Nat), Reps G W vs ds → Reps G W (vs.take n) (ds.take n)
  | _, _, 0, _ => .nil
  | _, _, _ + 1, .nil => .nil
  | _, _, n + 1, .cons h t => .cons h (Reps.take n t)
theorem Reps.drop : ∀ {vs : List V} {ds : List D} (n : Nat), Reps G W vs ds → Reps G W (vs.drop n) (ds.drop n)
  | _, _, 0, r => r
  | _, _, _ + 1, .nil => .nil
  | _, _, n + 1, .cons _ t => Reps.drop n t
theorem Reps.set : ∀ {vs : List V} {ds : List D} {v : V} {d : D} (n : Nat), Rep G W v d → Reps G W vs ds → Reps G W (vs.set n v) (ds.set n d)
  | _, _, _, _, _, _, .nil => .nil
  | _, _, _, _, 0, h, .cons _ t => .cons h t
  | _, _, _, _, n + 1, h, .cons q t => .cons q (Reps.set n h t)
theorem Reps.reverse : ∀ {vs : List V} {ds : List D}, Reps G W vs ds → Reps G W vs.reverse ds.reverse
  | _, _, .nil => .nil
  | _, _, .cons h t => by
    rw [List.reverse_cons, List.reverse_cons]
    exact Reps.append (Reps.reverse t) (.cons h .nil)
theorem Reps.eraseIdx : ∀ {vs : List V} {ds : List D} (n : Nat), Reps G W vs ds → Reps G W (vs.eraseIdx n) (ds.eraseIdx n)
  | _, _, _, .nil => .nil
  | _, _, 0, .cons _ t => t
  | _, _, n + 1, .cons q t => .cons q (Reps.eraseIdx n t)
theorem Reps.dropLast {vs : List V} {ds : List D} (r : Reps G W vs ds) : Reps G W vs.dropLast ds.dropLast := by
  rw [List.dropLast_eq_take, List.dropLast_eq_take, r.length]
  exact r.take _

theorem Rep.seqL {v : V} {d : D} {ds : List D} (h : Rep G W v d) (e : d.seqL = some ds) : ∃ a vs, v = .ref a ∧ SqL G.K W a vs ∧ Reps G W vs ds := by
  cases h with
  | lst h r => cases e; exact ⟨_, _, rfl, SqL.of h, r⟩
  | rls h r => cases e; exact ⟨_, _, rfl, h, r⟩
  | _ => cases e
theorem Rep.seqT {v : V} {d : D} {ds : List D} (h : Rep G W v d) (e : d.seqT = some ds) : ∃ a vs, v = .ref a ∧ SqT G.K W a vs ∧ Reps G W vs ds := by
  cases h with
  | tup h r => cases e; exact ⟨_, _, rfl, SqT.of h, r⟩
  | rtp h r => cases e; exact ⟨_, _, rfl, h, r⟩
  | _ => cases e

/-! ### slots -/
/-- what the slot's value stands for -/
def SlOk (G : En) (W H : Hp) (x : Option (Option V)) : Sl → Prop
  | .no => True
  | .fz d => ∃ v, x = some (some v) ∧ Rep G W v d
  | .ow o => ∃ p u, x = some (some (.ref p)) ∧ H p = some u ∧ W p = none ∧ RepO G W u o
/-- the addresses of the frame's own objects -/
def Own (s : S) (σ : L2.St) (a : Addr) : Prop := ∃ (i : Nat) (o : MO), s[i]? = some (Sl.ow o) ∧ σ[i]? = some (some (V.ref a))
/-- the tables of code objects: as they should be, and no data -/
structure TabsW (T : List (Addr × Str)) (W H : Hp) : Prop where
  t : LamX.Tabs T H
  w : ∀ p ∈ T, W p.1 = none
theorem TabsW.grow {T : List (Addr × Str)} {W H W' H' : Hp} (a : TabsW T W H) (k : Same H H') (f : ∀ p o, H p = some o → W p = none → W' p = none) : TabsW T W' H' :=
  ⟨a.t.ext k, fun p hp => let ⟨_, e, _⟩ := a.t p hp; f _ _ e (a.w p hp)⟩
structure RelS (G : En) (W H : Hp) (σ : L2.St) (s : S) : Prop where
  sub : Same W H
  tabs : TabsW G.T W H
  len : s.length = σ.length
  at_ : ∀ (i : Nat) (sl : Sl), s[i]? = some sl → SlOk G W H σ[i]? sl
  inj : ∀ (i j : Nat) (o o' : MO) (a : Addr), s[i]? = some (.ow o) → s[j]? = some (.ow o') → σ[i]? = some (some (.ref a)) → σ[j]? = some (some (.ref a)) → i = j
/-- a step: the data stay, what is tracked stays but for the own objects, what was no data isn't made data -/
structure Stp (P : Addr → Prop) (W H W' H' : Hp) : Prop where
  data : Same W W'
  keep : ∀ a o, H a = some o → ¬ P a → isTbl o = false → H' a = some o
  fresh : ∀ a o, H a = some o → W a = none → ¬ P a → W' a = none
  there : ∀ a o, H a = some o → ∃ o', H' a = some o'
theorem Stp.refl {P : Addr → Prop} : Stp P W H W H := ⟨Same.refl _, fun _ _ h _ _ => h, fun _ _ _ h _ => h, fun _ _ h => ⟨_, h⟩⟩
theorem Stp.back {P : Addr → Prop} (a : Stp P W H W' H') {p : Addr} (h : H' p = none) : H p = none := by
  cases e : H p with
  | none => rfl
  | some o =>
    obtain ⟨o', q⟩ := a.there p o e
    rw [h] at q; cases q
theorem Stp.trans {P P' : Addr → Prop} {W1 H1 W2 H2 : Hp} (a : Stp P W H W1 H1) (b : Stp P' W1 H1 W2 H2) (h : ∀ x, P' x → P x ∨ H x = none) : Stp P W H W2 H2 := by
  have np : ∀ x o, H x = some o → ¬ P x → ¬ P' x := fun x o e n z => by
    rcases h x z with q | q
    · exact n q
    · rw [e] at q; cases q
  exact ⟨a.data.trans b.data, fun x o e n z => b.keep x o (a.keep x o e n z) (np x o e n) z, fun x o e w n => let ⟨o', q⟩ := a.there x o e; b.fresh x o' q (a.fresh x o e w n) (np x o e n),
    fun x o e => let ⟨o', q⟩ := a.there x o e; b.there x o' q⟩
theorem Stp.mono {P P' : Addr → Prop} (a : Stp P W H W' H') (h : ∀ x, P x → P' x) : Stp P' W H W' H' :=
  ⟨a.data, fun x o e n z => a.keep x o e (fun z => n (h x z)) z, fun x o e w n => a.fresh x o e w fun z => n (h x z), a.there⟩
/-- a new object that is data at once -/
theorem Stp.new {P : Addr → Prop} {p : Addr} {u : HO} (hs : Same W H) (hp : H p = none) : Stp P W H (upd W p u) (upd H p u) := by
  refine ⟨fun b o e => ?_, fun a o e _ _ => ?_, fun a o e w _ => ?_, fun a o e => ⟨o, ?_⟩⟩
  · rw [upd_ne (ne_of_none (hs b o e) hp)]; exact e
  · rw [upd_ne (ne_of_none e hp)]; exact e
  · rw [upd_ne (ne_of_none e hp)]; exact w
  · rw [upd_ne (ne_of_none e hp)]; exact e
/-- a new object that is no data yet -/
theorem Stp.own {P : Addr → Prop} {p : Addr} {u : HO} (hp : H p = none) : Stp P W H W (upd H p u) := by
  refine ⟨Same.refl _, fun a o e _ _ => ?_, fun a o e w _ => w, fun a o e => ⟨o, ?_⟩⟩ <;>
  · rw [upd_ne (ne_of_none e hp)]; exact e
theorem same_upd {p : Addr} {u : HO} (hs : Same W H) : Same (upd W p u) (upd H p u) := fun b o e => by
  by_cases hb : b = p
  · subst hb; rw [upd_same] at e ⊢; exact e
  · rw [upd_ne hb] at e ⊢; exact hs b o e
theorem same_new {p : Addr} {u : HO} (hp : H p = none) : Same H (upd H p u) := fun b o e => by
  rw [upd_ne (ne_of_none e hp)]; exact e

variable {σ σ' : L2.St} {s s' : S} {P : Addr → Prop}
theorem Own.lt {a : Addr} (h : Own s σ a) (r : RelS G W H σ s) : ∃ u, H a = some u ∧ W a = none := by
  obtain ⟨i, o, e1, e2⟩ := h
  obtain ⟨p, u, e, h1, h2, _⟩ := r.at_ i _ e1
  rw [e2] at e
  cases e
  exact ⟨u, h1, h2⟩
theorem RelS.get (r : RelS G W H σ s) {i : Nat} {d : D} (e : s[i]? = some (.fz d)) : ∃ v, σ[i]? = some (some v) ∧ Rep G W v d := r.at_ i _ e
theorem RelS.ow (r : RelS G W H σ s) {i : Nat} {o : MO} (e : s[i]? = some (.ow o)) : ∃ p u, σ[i]? = some (some (.ref p)) ∧ H p = some u ∧ W p = none ∧ RepO G W u o := r.at_ i _ e
/-- the slots where more is data, more is tracked; the own objects as they were -/
theorem RelS.step {W' H' : Hp} (r : RelS G W H σ s) (sub : Same W' H') (d : Same W W') (k : ∀ a, Own s σ a → H' a = H a ∧ W' a = none) (ht : TabsW G.T W' H') : RelS G W' H' σ s := by
  refine ⟨sub, ht, r.len, fun i sl e => ?_, r.inj⟩
  have q := r.at_ i sl e
  cases sl with
  | no => trivial
  | fz x =>
    obtain ⟨v, e1, h⟩ := q
    exact ⟨v, e1, h.mono d⟩
  | ow o =>
    obtain ⟨p, u, e1, h1, h2, h3⟩ := q
    obtain ⟨k1, k2⟩ := k p ⟨i, o, e, e1⟩
    exact ⟨p, u, e1, k1.trans h1, k2, h3.mono d⟩
theorem RelS.new {p : Addr} {u : HO} (r : RelS G W H σ s) (hp : H p = none) : RelS G (upd W p u) (upd H p u) σ s := by
  refine r.step (same_upd r.sub) (fun b o e => ?_) (fun a ho => ?_) (r.tabs.grow (same_new hp) fun q o e w => by rw [upd_ne (ne_of_none e hp)]; exact w)
  · rw [upd_ne (ne_of_none (r.sub b o e) hp)]; exact e
  · obtain ⟨v, h1, h2⟩ := ho.lt r
    have ne := ne_of_none h1 hp
    exact ⟨upd_ne ne, by rw [upd_ne ne]; exact h2⟩
theorem RelS.newO {p : Addr} {u : HO} (r : RelS G W H σ s) (hp : H p = none) : RelS G W (upd H p u) σ s := by
  refine r.step (r.sub.trans (same_new hp)) (Same.refl _) (fun a ho => ?_) (r.tabs.grow (same_new hp) fun q o e w => w)
  obtain ⟨v, h1, h2⟩ := ho.lt r
  exact ⟨upd_ne (ne_of_none h1 hp), h2⟩
/-- an object that is none of the frame's own becomes data -/
theorem TabsW.ne {T : List (Addr × Str)} {p : Addr} {u : HO} (t : TabsW T W H) (hp : H p = some u) (hu : isTbl u = false) : ∀ q ∈ T, q.1 ≠ p := fun q hq z => by
  obtain ⟨ps, e, _⟩ := t.t q hq
  rw [z, hp] at e
  cases e
  cases hu
theorem RelS.frz {p : Addr} {u : HO} (r : RelS G W H σ s) (hp : H p = some u) (hw : W p = none) (no : ¬ Own s σ p) (hu : isTbl u = false) : RelS G (upd W p u) H σ s := by
  refine r.step (fun b o e => ?_) (fun b o e => ?_) (fun a ho => ⟨rfl, ?_⟩) ⟨r.tabs.t, fun q hq => by rw [upd_ne (r.tabs.ne hp hu q hq)]; exact r.tabs.w q hq⟩
  · by_cases hb : b = p
    · subst hb; rw [upd_same] at e; cases e; exact hp
    · rw [upd_ne hb] at e; exact r.sub b o e
  · by_cases hb : b = p
    · subst hb; rw [hw] at e; cases e
    · rw [upd_ne hb]; exact e
  · rw [upd_ne (fun e : a = p => no (e ▸ ho))]
    exact (ho.lt r).elim fun _ z => z.2
end
end Mv

set_option Elab.async false
set_option linter.all false
set_option maxRecDepth 100000
set_option maxHeartbeats 2000000
/-! Mv1: the judgements of expressions, and their rules. -/
namespace Mv
open PySem PySem.Spec PyProof.Rows L2

/-- an exception in the air: its class c, its fields d -/
def ExOk (G : En) (W H : Hp) (c : Str) (d : D) (cl : Value) (od : Option Addr) : Prop :=
  ∃ C, cl = .ref C ∧ G.mg c = some (.ref C) ∧ ((d = .non ∧ od = none) ∨ ∃ a fs ds, d = .obj c ds ∧ od = some a ∧ H a = some (.xd fs) ∧ ds.map Prod.fst = fs.map Prod.fst ∧ Reps G W (fs.map Prod.snd) (ds.map Prod.snd))

/-- behind an expression -/
structure Aft (G : En) (s : S) (σ : L2.St) (W H : Hp) (s' : S) (W' H' : Hp) : Prop where
  stp : Stp (Own s σ) W H W' H'
  rel : RelS G W' H' σ s'
  own : ∀ a, Own s' σ a → Own s σ a
section
variable {G : En} {s s1 s2 : S} {σ : L2.St} {W H W1 H1 W2 H2 : Hp}
theorem Aft.refl (r : RelS G W H σ s) : Aft G s σ W H s W H := ⟨.refl, r, fun _ h => h⟩
theorem Aft.trans (a : Aft G s σ W H s1 W1 H1) (b : Aft G s1 σ W1 H1 s2 W2 H2) : Aft G s σ W H s2 W2 H2 :=
  ⟨a.stp.trans b.stp fun x h => .inl (a.own x h), b.rel, fun x h => a.own x (b.own x h)⟩
/-- a new object that is data at once -/
theorem Aft.new {p : Addr} {u : HO} (r : RelS G W H σ s) (hp : H p = none) : Aft G s σ W H s (upd W p u) (upd H p u) :=
  ⟨.new r.sub hp, r.new hp, fun _ h => h⟩
theorem Aft.newO {p : Addr} {u : HO} (r : RelS G W H σ s) (hp : H p = none) : Aft G s σ W H s W (upd H p u) :=
  ⟨.own hp, r.newO hp, fun _ h => h⟩
theorem Aft.rep (a : Aft G s σ W H s1 W1 H1) {v : V} {d : D} (h : Rep G W v d) : Rep G W1 v d := h.mono a.stp.data
theorem Aft.reps (a : Aft G s σ W H s1 W1 H1) {v : List V} {d : List D} (h : Reps G W v d) : Reps G W1 v d := h.mono a.stp.data
end

theorem RepO.notTbl {G : En} {W : Hp} {u : HO} {o : MO} (h : RepO G W u o) : isTbl u = false := by cases h <;> rfl
theorem RepO.notExt {G : En} {W : Hp} {u : HO} {o : MO} (h : RepO G W u o) (φ : Heap → Prop) : u ≠ .ext φ := by cases h <;> (intro z; cases z)
theorem RepO.notTup {G : En} {W : Hp} {u : HO} {o : MO} (h : RepO G W u o) (xs : List V) : u ≠ .tup xs := by cases h <;> (intro z; cases z)
theorem Own.notTup {G : En} {W H : Hp} {σ : L2.St} {s : S} {a : Addr} {xs : List V} (h : Own s σ a) (r : RelS G W H σ s) (e : H a = some (.tup xs)) : False := by
  obtain ⟨i, o, e1, e2⟩ := h
  obtain ⟨p, u, e3, h1, h2, h3⟩ := r.at_ i _ e1
  rw [e2] at e3
  cases e3
  rw [e] at h1
  exact h3.notTup xs (Option.some.inj h1).symm
theorem Own.lt3 {G : En} {W H : Hp} {σ : L2.St} {s : S} {a : Addr} (h : Own s σ a) (r : RelS G W H σ s) : ∃ u, H a = some u ∧ W a = none ∧ isTbl u = false ∧ ∀ φ, u ≠ .ext φ := by
  obtain ⟨i, o, e1, e2⟩ := h
  obtain ⟨p, u, e, h1, h2, h3⟩ := r.at_ i _ e1
  rw [e2] at e
  cases e
  exact ⟨u, h1, h2, h3.notTbl, h3.notExt⟩
/-- an object that is neither a table nor a code object is written -/
theorem tabs_upd {T : List (Addr × Str)} {H : Hp} {p : Addr} {u u' : HO} (t : LamX.Tabs T H) (hp : H p = some u) (h1 : isTbl u = false) (h2 : ∀ φ, u ≠ .ext φ) : LamX.Tabs T (upd H p u') := fun x hx => by
  obtain ⟨ps, a1, a2, a3⟩ := t x hx
  have n1 : x.1 ≠ p := fun z => by
    rw [z, hp] at a1
    cases a1
    cases h1
  refine ⟨ps, by rw [upd_ne n1]; exact a1, a2, fun pos cv hc => ?_⟩
  obtain ⟨c, e1, e2⟩ := a3 pos cv hc
  have n2 : c ≠ p := fun z => by
    rw [z, hp] at e2
    exact h2 _ (Option.some.inj e2)
  exact ⟨c, e1, by rw [upd_ne n2]; exact e2⟩
/-- a step of another's: the own objects stand -/
theorem Aft.over {G : En} {W H W' H' : Hp} {σ : L2.St} {s : S} (r : RelS G W H σ s) (st : Stp (fun _ => False) W H W' H') (sub : Same W' H') (ht : TabsW G.T W' H') : Aft G s σ W H s W' H' := by
  refine ⟨st.mono fun _ z => z.elim, r.step sub st.data (fun a ha => ?_) ht, fun _ z => z⟩
  obtain ⟨u, h1, h2, h3, _⟩ := ha.lt3 r
  exact ⟨(st.keep a u h1 id h3).trans h1.symm, st.fresh a u h1 h2 id⟩
/-- what is wanted of a result -/
def Post {α : Type} (G : En) (W0 : WX) (s : S) (σ : L2.St) (W H : Hp) (m : R α) (Kt : α → S → Hp → Hp → Prop) : Prop := match m with
  | .ok a s' => ∀ W' H', Aft G s σ W H s' W' H' → Kt a s' W' H'
  | .ex c d s' => ∀ W' H' cl od, Aft G s σ W H s' W' H' → ExOk G W' H' c d cl od → W0 cl od σ H'
  | .bad => False
section
variable {α β : Type} {G : En} {W0 : WX} {s : S} {σ : L2.St} {W H : Hp}
theorem Post.bind {m : R α} {f : α → S → R β} {Kt : β → S → Hp → Hp → Prop} (h : Post G W0 s σ W H (m.bind f) Kt) :
    Post G W0 s σ W H m fun a s1 W1 H1 => Post G W0 s1 σ W1 H1 (f a s1) Kt := by
  cases m with
  | bad => exact h
  | ex c d s' => exact h
  | ok a s1 =>
    intro W1 H1 a1
    have h : Post G W0 s σ W H (f a s1) Kt := h
    cases q : f a s1 with
    | bad => rw [q] at h; exact h
    | ex c d s2 =>
      rw [q] at h
      exact fun W2 H2 cl od a2 x => h W2 H2 cl od (a1.trans a2) x
    | ok b s2 =>
      rw [q] at h
      exact fun W2 H2 a2 => h W2 H2 (a1.trans a2)
theorem Post.here {a : α} {Kt : α → S → Hp → Hp → Prop} (r : RelS G W H σ s) (h : Post G W0 s σ W H (.ok a s) Kt) : Kt a s W H := h W H (.refl r)
theorem Post.imp {m : R α} {Kt Kt' : α → S → Hp → Hp → Prop} (h : Post G W0 s σ W H m Kt) (f : ∀ a s' W' H', Aft G s σ W H s' W' H' → Kt a s' W' H' → Kt' a s' W' H') : Post G W0 s σ W H m Kt' := by
  cases m with
  | bad => exact h
  | ex c d s' => exact h
  | ok a s1 => exact fun W1 H1 a1 => f a s1 W1 H1 a1 (h W1 H1 a1)
end

/-- data come of it -/
abbrev KD (G : En) (Q : VK) : D → S → Hp → Hp → Prop := fun d _ W' H' => ∀ v, Rep G W' v d → Q v H'
/-- a new object that is nobody's yet -/
abbrev KF (G : En) (H : Hp) (Q : VK) : MO → S → Hp → Hp → Prop := fun o _ W' H' => ∀ p u, H p = none → H' p = some u → W' p = none → RepO G W' u o → Q (.ref p) H'

abbrev _root_.L2.Cx.G (X : Cx) (T : List (Addr × Str)) : En := ⟨X.K, X.mg, T⟩
structure MD (T : List (Addr × Str)) (X : Cx) (W0 : WX) (e : Expr) (m : M D) : Prop where
  ex : ∃ t : TE, PE X e t ∧ ∀ σ W H s Q, RelS (X.G T) W H σ s → Post (X.G T) W0 s σ W H (m s) (KD (X.G T) Q) → t σ H Q
structure MF (T : List (Addr × Str)) (X : Cx) (W0 : WX) (e : Expr) (m : M MO) : Prop where
  ex : ∃ t : TE, PE X e t ∧ ∀ σ W H s Q, RelS (X.G T) W H σ s → Post (X.G T) W0 s σ W H (m s) (KF (X.G T) H Q) → t σ H Q
structure MT (T : List (Addr × Str)) (X : Cx) (W0 : WX) (e : Expr) (m : M Bool) : Prop where
  ex : ∃ t : TT, PT X e t ∧ ∀ σ W H s Q, RelS (X.G T) W H σ s → Post (X.G T) W0 s σ W H (m s) (fun b _ _ H' => Q b H') → t σ H Q
structure MW (T : List (Addr × Str)) (X : Cx) (W0 : WX) (e : Expr) (m : M Bool) : Prop where
  ex : ∃ t : TT, PW X e t ∧ ∀ σ W H s Q, RelS (X.G T) W H σ s → Post (X.G T) W0 s σ W H (m s) (fun b _ _ H' => Q b H') → t σ H Q

/-- a place that is read: data, or a slot as it stands -/
inductive Pl where
  | dat (d : D) | sl (i : Nat)
def PlOk (G : En) (W : Hp) (σ : L2.St) (v : V) : Pl → Prop
  | .dat d => Rep G W v d
  | .sl i => σ[i]? = some (some v)
def Pl.get (s : S) : Pl → Option D
  | .dat d => some d
  | .sl i => match s[i]? with
    | some (.fz d) => some d
    | some (.ow o) => some o.d
    | _ => none
structure MP (T : List (Addr × Str)) (X : Cx) (W0 : WX) (e : Expr) (m : M Pl) : Prop where
  ex : ∃ t : TE, PE X e t ∧ ∀ σ W H s Q, RelS (X.G T) W H σ s → Post (X.G T) W0 s σ W H (m s) (fun pl _ W' H' => ∀ v, PlOk (X.G T) W' σ v pl → Q v H') → t σ H Q
section
variable {G : En} {W H W' H' : Hp} {σ : L2.St} {s s' : S}
theorem PlOk.mono {v : V} {pl : Pl} (e : Same W W') (h : PlOk G W σ v pl) : PlOk G W' σ v pl := by
  cases pl with
  | dat d => exact Rep.mono e h
  | sl i => exact h
/-- what a place holds, as it is read -/
theorem PlOk.read {v : V} {pl : Pl} {d : D} (r : RelS G W H σ s) (h : PlOk G W σ v pl) (e : pl.get s = some d) : Rep G H v d := by
  cases pl with
  | dat d' =>
    have e : some d' = some d := e
    cases e
    exact Rep.mono r.sub h
  | sl i =>
    have h : σ[i]? = some (some v) := h
    have e : (match s[i]? with
      | some (.fz d) => some d
      | some (.ow o) => some o.d
      | _ => none) = some d := e
    cases q : s[i]? with
    | none => rw [q] at e; cases e
    | some sl =>
      rw [q] at e
      cases sl with
      | no => cases e
      | fz d' =>
        cases e
        obtain ⟨v', e1, h1⟩ := r.get q
        rw [h] at e1
        cases e1
        exact h1.mono r.sub
      | ow o =>
        cases e
        obtain ⟨p, u, e1, h1, _, h2⟩ := r.ow q
        rw [h] at e1
        cases e1
        exact (h2.mono r.sub).rep h1
end

/-! ### between the judgements -/
def asD (m : M MO) : M D := fun s => (m s).bind fun o s => .ok o.d s
def asP (m : M D) : M Pl := fun s => (m s).bind fun d s => .ok (.dat d) s
section
variable {T : List (Addr × Str)} {X : Cx} {W0 : WX} {e : Expr}
theorem MF.d {m : M MO} (h : MF T X W0 e m) : MD T X W0 e (asD m) := by
  obtain ⟨t, p, h⟩ := h.ex
  refine ⟨t, p, fun σ W H s Q r q => h σ W H s Q r ?_⟩
  have q : Post (X.G T) W0 s σ W H ((m s).bind fun o s => .ok o.d s) (KD (X.G T) Q) := q
  cases em : m s with
  | bad => rw [em] at q; exact q
  | ex c d s1 => rw [em] at q; exact q
  | ok o s1 =>
    rw [em] at q
    intro W1 H1 a1 p u hp hu hw ho
    have no : ¬ Own s1 σ p := fun z => by
      obtain ⟨u', z1, _⟩ := (a1.own p z).lt r
      rw [hp] at z1; cases z1
    have data : Same W1 (upd W1 p u) := fun b o e => by
      by_cases hb : b = p
      · subst hb; rw [hw] at e; cases e
      · rw [upd_ne hb]; exact e
    refine q (upd W1 p u) H1 ⟨⟨a1.stp.data.trans data, a1.stp.keep, fun a o e w n => ?_, a1.stp.there⟩, a1.rel.frz hu hw no ho.notTbl, a1.own⟩ _ ((ho.mono data).rep upd_same)
    rw [upd_ne (ne_of_none e hp)]
    exact a1.stp.fresh a o e w n
theorem MD.p {m : M D} (h : MD T X W0 e m) : MP T X W0 e (asP m) := by
  obtain ⟨t, p, h⟩ := h.ex
  refine ⟨t, p, fun σ W H s Q r q => h σ W H s Q r ?_⟩
  refine (Post.bind q).imp fun d s1 W1 H1 a1 q1 v hv => ?_
  exact Post.here a1.rel q1 v hv

/-! ### names, constants -/
def mC (d : D) : M D := fun s => .ok d s
theorem md_int {i j pos} : MD T X W0 (.Constant (.int i) j pos) (mC (.int i)) := ⟨_, pe_int, fun σ W H s Q r q => Post.here r q _ (.int i)⟩
theorem md_bl {b j pos} : MD T X W0 (.Constant (.bool b) j pos) (mC (.bl b)) := ⟨_, pe_bl, fun σ W H s Q r q => Post.here r q _ (.bl b)⟩
theorem md_non {j pos} : MD T X W0 (.Constant .none j pos) (mC .non) := ⟨_, pe_non, fun σ W H s Q r q => Post.here r q _ .non⟩
theorem md_str {x j pos} : MD T X W0 (.Constant (.str x) j pos) (mC (.str x)) := ⟨_, pe_str, fun σ W H s Q r q => Post.here r q _ (.str x)⟩
/-- a module's constant -/
theorem md_glob {x : Str} {v : V} {u : Value} {d : D} {pos : Pos} (hg : Gl X x) (hm : X.mg x = some u) (r : RelV v u) (hd : ∀ W, Rep (X.G T) W v d) (hdb : (x == ("__debug__" : Str)) = false := by decide) : MD T X W0 (.Name x pos) (mC d) :=
  ⟨_, pe_glob hg hm r hdb, fun σ W H s Q r q => Post.here r q _ (hd W)⟩
/-- a name as a place -/
def pS (i : Nat) : M Pl := fun s => match s[i]? with
  | some (.fz _) => .ok (.sl i) s
  | some (.ow _) => .ok (.sl i) s
  | _ => .bad
/-- a name's data: an own object becomes data -/
def mV (i : Nat) : M D := fun s => match s[i]? with
  | some (.fz d) => .ok d s
  | some (.ow o) => .ok o.d (s.set i (.fz o.d))
  | _ => .bad
theorem RelS.frzAt {G : En} {W H : Hp} {σ : L2.St} {s : S} {i : Nat} {o : MO} (r : RelS G W H σ s) (e : s[i]? = some (.ow o)) :
    ∃ p u, σ[i]? = some (some (.ref p)) ∧ H p = some u ∧ W p = none ∧ Rep G (upd W p u) (.ref p) o.d ∧ Aft G s σ W H (s.set i (.fz o.d)) (upd W p u) H := by
  obtain ⟨p, u, e1, h1, h2, h3⟩ := r.ow e
  have data : Same W (upd W p u) := fun b x e => by
    by_cases hb : b = p
    · subst hb; rw [h2] at e; cases e
    · rw [upd_ne hb]; exact e
  have rp : Rep G (upd W p u) (.ref p) o.d := (h3.mono data).rep upd_same
  have li : i < s.length := (List.getElem?_eq_some_iff.mp e).1
  have own : ∀ a, Own (s.set i (.fz o.d)) σ a → Own s σ a ∧ a ≠ p := fun a ⟨j, o', z1, z2⟩ => by
    by_cases hj : i = j
    · subst hj
      rw [List.getElem?_set_self li] at z1
      cases z1
    · rw [List.getElem?_set_ne hj] at z1
      refine ⟨⟨j, o', z1, z2⟩, fun z => hj ?_⟩
      subst z
      exact r.inj i j o o' a e z1 e1 z2
  refine ⟨p, u, e1, h1, h2, rp, ⟨data, fun a x e' _ _ => e', fun a x e' w n => ?_, fun a x e' => ⟨x, e'⟩⟩, ⟨fun b x e' => ?_, ⟨r.tabs.t, fun q hq => by rw [upd_ne (r.tabs.ne h1 h3.notTbl q hq)]; exact r.tabs.w q hq⟩, by rw [List.length_set]; exact r.len, fun j sl z => ?_, fun j k o1 o2 a z1 z2 z3 z4 => ?_⟩, fun a z => (own a z).1⟩
  · have na : a ≠ p := fun z => n (by subst z; exact ⟨i, o, e, e1⟩)
    rw [upd_ne na]; exact w
  · by_cases hb : b = p
    · subst hb; rw [upd_same] at e'; cases e'; exact h1
    · rw [upd_ne hb] at e'; exact r.sub b x e'
  · by_cases hj : i = j
    · subst hj
      rw [List.getElem?_set_self li] at z
      cases z
      exact ⟨_, e1, rp⟩
    · rw [List.getElem?_set_ne hj] at z
      have q := r.at_ j sl z
      cases sl with
      | no => trivial
      | fz d =>
        obtain ⟨v, q1, q2⟩ := q
        exact ⟨v, q1, q2.mono data⟩
      | ow o' =>
        obtain ⟨p', u', q1, q2, q3, q4⟩ := q
        refine ⟨p', u', q1, q2, ?_, q4.mono data⟩
        rw [upd_ne (fun z' : p' = p => hj (by subst z'; exact r.inj i j o o' p' e z e1 q1))]
        exact q3
  · have nj : ∀ {k : Nat} {o' : MO}, (s.set i (.fz o.d))[k]? = some (Sl.ow o') → s[k]? = some (Sl.ow o') := fun {k o'} z => by
      by_cases hk : i = k
      · subst hk
        rw [List.getElem?_set_self li] at z
        cases z
      · rw [List.getElem?_set_ne hk] at z; exact z
    exact r.inj j k o1 o2 a (nj z1) (nj z2) z3 z4
theorem mp_slot (i : Nat) {x : Str} {pos : Pos} (hN : X.N[i]? = some x := by rfl) (hv : Vis X.env.scope x := by first | exact Or.inl rfl | exact Or.inr (Or.inl rfl) | exact Or.inr (Or.inr rfl)) (hd : (x == ("__debug__" : Str)) = false := by decide)
    (hcd : (x == ("__classdict__" : Str)) = false := by decide) : MP T X W0 (.Name x pos) (pS i) := by
  refine ⟨tVar i, pe_var hN hv hd hcd, fun σ W H s Q r q => ?_⟩
  unfold pS at q
  cases e : s[i]? with
  | none => simp only [e] at q; exact q.elim
  | some sl =>
    cases sl with
    | no => simp only [e] at q; exact q.elim
    | fz d =>
      simp only [e] at q
      obtain ⟨v, e1, _⟩ := r.get e
      exact ⟨v, e1, Post.here r q v e1⟩
    | ow o =>
      simp only [e] at q
      obtain ⟨p, u, e1, _⟩ := r.ow e
      exact ⟨_, e1, Post.here r q _ e1⟩
theorem md_var (i : Nat) {x : Str} {pos : Pos} (hN : X.N[i]? = some x := by rfl) (hv : Vis X.env.scope x := by first | exact Or.inl rfl | exact Or.inr (Or.inl rfl) | exact Or.inr (Or.inr rfl)) (hd : (x == ("__debug__" : Str)) = false := by decide)
    (hcd : (x == ("__classdict__" : Str)) = false := by decide) : MD T X W0 (.Name x pos) (mV i) := by
  refine ⟨tVar i, pe_var hN hv hd hcd, fun σ W H s Q r q => ?_⟩
  unfold mV at q
  cases e : s[i]? with
  | none => simp only [e] at q; exact q.elim
  | some sl =>
    cases sl with
    | no => simp only [e] at q; exact q.elim
    | fz d =>
      simp only [e] at q
      obtain ⟨v, e1, h⟩ := r.get e
      exact ⟨v, e1, Post.here r q v h⟩
    | ow o =>
      simp only [e] at q
      obtain ⟨p, u, e1, h1, h2, rp, af⟩ := r.frzAt e
      exact ⟨_, e1, q _ _ af _ rp⟩
end
end Mv

set_option Elab.async false
set_option linter.all false
set_option maxRecDepth 100000
set_option maxHeartbeats 2000000
/-! Mv2: operators, comparisons, tests, subscripts, slices, displays. -/
namespace Mv
open PySem PySem.Spec PyProof.Rows L2

mutual
def D.py : D → Option PyData
  | .non => some .none
  | .bl b => some (.bool b)
  | .int i => some (.int i)
  | .str x => some (.str x)
  | .lst xs => (D.pys xs).map .list
  | .rls xs => (D.pys xs).map .list
  | .tup xs => (D.pys xs).map .tuple
  | .rtp xs => (D.pys xs).map .tuple
  | .dic _ => none
  | .obj _ _ => none
  | .raw _ => none
def D.pys : List D → Option (List PyData)
  | [] => some []
  | x :: xs => match D.py x, D.pys xs with
    | some a, some b => some (a :: b)
    | _, _ => none
end
section
variable {G : En} {H : Hp}
mutual
theorem Rep.dp : ∀ {v : V} {d : D} {x : PyData}, Rep G H v d → d.py = some x → Dp G.K H v x
  | _, _, _, .non, e => by cases e; exact .non
  | _, _, _, .bl b, e => by cases e; exact .bl b
  | _, _, _, .int i, e => by cases e; exact .int i
  | _, _, _, .str x, e => by cases e; exact .str x
  | _, _, _, .lst h r, e => by
    simp only [D.py, Option.map_eq_some_iff] at e
    obtain ⟨ys, e, rfl⟩ := e
    exact .lst (SqL.of h) (Reps.dp r e)
  | _, _, _, .rls h r, e => by
    simp only [D.py, Option.map_eq_some_iff] at e
    obtain ⟨ys, e, rfl⟩ := e
    exact .lst h (Reps.dp r e)
  | _, _, _, .tup h r, e => by
    simp only [D.py, Option.map_eq_some_iff] at e
    obtain ⟨ys, e, rfl⟩ := e
    exact .tup (SqT.of h) (Reps.dp r e)
  | _, _, _, .rtp h r, e => by
    simp only [D.py, Option.map_eq_some_iff] at e
    obtain ⟨ys, e, rfl⟩ := e
    exact .tup h (Reps.dp r e)
  | _, _, _, .dK _ _ _, e => by cases e
  | _, _, _, .dT _ _ _, e => by cases e
  | _, _, _, .ins _ _ _ _, e => by cases e
  | _, _, _, .raw _, e => by cases e
theorem Reps.dp : ∀ {vs : List V} {ds : List D} {xs : List PyData}, Reps G H vs ds → D.pys ds = some xs → DpAll G.K H vs xs
  | _, _, _, .nil, e => by cases e; exact .nil
  | _, _, _, .cons (d := d) (ds := ds) h r, e => by
    simp only [D.pys] at e
    cases e1 : d.py with
    | none => rw [e1] at e; cases e
    | some a =>
      cases e2 : D.pys ds with
      | none => rw [e1, e2] at e; cases e
      | some b =>
        rw [e1, e2] at e
        cases e
        exact .cons (Rep.dp h e1) (Reps.dp r e2)
end
end

/-! ### places read -/
/-- read at H: data, or an object of the frame's own (its parts are data) -/
def RepR (G : En) (W H : Hp) (v : V) (d : D) : Prop := Rep G W v d ∨ ∃ p u o, v = .ref p ∧ H p = some u ∧ RepO G W u o ∧ d = MO.d o
section
variable {G : En} {W H W' H' : Hp} {σ : L2.St} {s s' : S} {v : V} {d : D}
theorem PlOk.readR {pl : Pl} (r : RelS G W H σ s) (h : PlOk G W σ v pl) (e : pl.get s = some d) : RepR G W H v d := by
  cases pl with
  | dat d' =>
    have e : some d' = some d := e
    cases e
    exact .inl h
  | sl i =>
    have h : σ[i]? = some (some v) := h
    have e : (match s[i]? with
      | some (.fz d) => some d
      | some (.ow o) => some o.d
      | _ => none) = some d := e
    cases q : s[i]? with
    | none => rw [q] at e; cases e
    | some sl =>
      rw [q] at e
      cases sl with
      | no => cases e
      | fz d' =>
        cases e
        obtain ⟨v', e1, h1⟩ := r.get q
        rw [h] at e1
        cases e1
        exact .inl h1
      | ow o =>
        cases e
        obtain ⟨p, u, e1, h1, _, h2⟩ := r.ow q
        rw [h] at e1
        cases e1
        exact .inr ⟨p, u, o, rfl, h1, h2, rfl⟩
theorem RepR.rep (hs : Same W H) (h : RepR G W H v d) : Rep G H v d := by
  rcases h with h | ⟨p, u, o, rfl, h1, h2, rfl⟩
  · exact h.mono hs
  · exact (h2.mono hs).rep h1
theorem RepR.lst {xs : List D} (hs : Same W H) (h : RepR G W H v (.lst xs)) : ∃ a vs, v = .ref a ∧ H a = some (.lst vs) ∧ Reps G W vs xs := by
  rcases h with h | ⟨p, u, o, rfl, h1, h2, e⟩
  · cases h with
    | lst h r => exact ⟨_, _, rfl, hs _ _ h, r⟩
  · cases h2 with
    | lst r => cases e; exact ⟨_, _, rfl, h1, r⟩
    | _ => cases e
theorem RepR.seqL {xs : List D} (hs : Same W H) (h : RepR G W H v d) (e : d.seqL = some xs) : ∃ a vs, v = .ref a ∧ SqL G.K H a vs ∧ Reps G W vs xs := by
  cases d with
  | lst ys =>
    cases e
    obtain ⟨a, vs, h1, h2, h3⟩ := h.lst hs
    exact ⟨a, vs, h1, SqL.of h2, h3⟩
  | rls ys =>
    cases e
    rcases h with h | ⟨p, u, o, rfl, h1, h2, e⟩
    · cases h with
      | rls h r => exact ⟨_, _, rfl, hs.seq h, r⟩
    · cases h2 <;> cases e
  | _ => cases e
theorem RepR.seqT {xs : List D} (hs : Same W H) (h : RepR G W H v d) (e : d.seqT = some xs) : ∃ a vs, v = .ref a ∧ SqT G.K H a vs ∧ Reps G W vs xs := by
  have no : ∀ (u : HO) (o : MO), RepO G W u o → d = o.d → False := fun u o h2 e' => by
    cases h2 <;> (subst e'; cases e)
  rcases h with h | ⟨p, u, o, rfl, h1, h2, e'⟩
  · obtain ⟨a, vs, h1, h2, h3⟩ := h.seqT e
    exact ⟨a, vs, h1, sqT_mono hs h2, h3⟩
  · exact (no u o h2 e').elim
theorem RepR.int {i : Int} (h : RepR G W H v (.int i)) : v = .int i := by
  rcases h with h | ⟨p, u, o, rfl, h1, h2, e⟩
  · cases h; rfl
  · cases h2 <;> cases e
theorem RepR.str {i : Str} (h : RepR G W H v (.str i)) : v = .str i := by
  rcases h with h | ⟨p, u, o, rfl, h1, h2, e⟩
  · cases h; rfl
  · cases h2 <;> cases e
theorem RepR.bl {i : Bool} (h : RepR G W H v (.bl i)) : v = .bl i := by
  rcases h with h | ⟨p, u, o, rfl, h1, h2, e⟩
  · cases h; rfl
  · cases h2 <;> cases e
theorem RepR.non (h : RepR G W H v .non) : v = .non := by
  rcases h with h | ⟨p, u, o, rfl, h1, h2, e⟩
  · cases h; rfl
  · cases h2 <;> cases e
/-- a step that leaves every object as it is -/
structure Stp0 (W H W' H' : Hp) : Prop where
  data : Same W W'
  keep : Same H H'
  fresh : ∀ a o, H a = some o → W a = none → W' a = none
theorem Stp0.refl : Stp0 W H W H := ⟨Same.refl _, Same.refl _, fun _ _ _ h => h⟩
theorem Stp0.stp {P : Addr → Prop} (a : Stp0 W H W' H') : Stp P W H W' H' := ⟨a.data, fun b o e _ _ => a.keep b o e, fun b o e w _ => a.fresh b o e w, fun b o e => ⟨o, a.keep b o e⟩⟩
theorem Stp0.new {p : Addr} {u : HO} (hs : Same W H) (hp : H p = none) : Stp0 W H (upd W p u) (upd H p u) := by
  refine ⟨fun b o e => ?_, fun a o e => ?_, fun a o e w => ?_⟩
  · rw [upd_ne (ne_of_none (hs b o e) hp)]; exact e
  · rw [upd_ne (ne_of_none e hp)]; exact e
  · rw [upd_ne (ne_of_none e hp)]; exact w
theorem RelS.stp0 (r : RelS G W H σ s) (st : Stp0 W H W' H') (sub : Same W' H') : Aft G s σ W H s W' H' := by
  refine ⟨st.stp, r.step sub st.data (fun a ha => ?_) (r.tabs.grow st.keep st.fresh), fun _ z => z⟩
  obtain ⟨u, h1, h2⟩ := ha.lt r
  exact ⟨(st.keep a u h1).trans h1.symm, st.fresh a u h1 h2⟩
end

/-! ### two places in, data out -/
/-- an operation's answer is wanted: z, standing in data that may have grown -/
def Ans (G : En) (W H : Hp) (Q : VK) (z : D) : Prop := ∀ v W' H', Stp0 W H W' H' → Same W' H' → Rep G W' v z → Q v H'
/-- .. a new object -/
def AnsF (G : En) (W H : Hp) (Q : VK) (z : MO) : Prop := ∀ p u, H p = none → RepO G W u z → Q (.ref p) (upd H p u)
def OpD (G : En) (r : R2) (f : D → D → Option D) : Prop :=
  ∀ (W H : Hp) (x y : V) (d e z : D) (Q : VK), Same W H → RepR G W H x d → RepR G W H y e → f d e = some z → Ans G W H Q z → r x y H Q
def OpF (G : En) (r : R2) (f : D → D → Option MO) : Prop :=
  ∀ (W H : Hp) (x y : V) (d e : D) (z : MO) (Q : VK), Same W H → RepR G W H x d → RepR G W H y e → f d e = some z → AnsF G W H Q z → r x y H Q
section
variable {G : En} {W H : Hp} {Q : VK}
theorem Ans.here {z : D} {v : V} (hs : Same W H) (q : Ans G W H Q z) (h : Rep G W v z) : Q v H := q v W H .refl hs h
theorem Ans.f {z : MO} (hs : Same W H) (q : Ans G W H Q z.d) : AnsF G W H Q z := fun p u hp hu =>
  q _ (upd W p u) (upd H p u) (.new hs hp) (same_upd hs) ((hu.mono fun b o e => by rw [upd_ne (ne_of_none (hs b o e) hp)]; exact e).rep upd_same)
theorem Ans.tup {xs : List D} {vs : List V} (hs : Same W H) (q : Ans G W H Q (.tup xs)) (h : Reps G W vs xs) {p : Addr} (hp : H p = none) : Q (.ref p) (upd H p (.tup vs)) :=
  q _ (upd W p (.tup vs)) (upd H p (.tup vs)) (.new hs hp) (same_upd hs) (.tup upd_same (h.mono fun b o e => by rw [upd_ne (ne_of_none (hs b o e) hp)]; exact e))
theorem OpF.d {r : R2} {f : D → D → Option MO} (h : OpF G r f) : OpD G r (fun x y => (f x y).map MO.d) := fun W H x y d e z Q hs hx hy hz q => by
  simp only [Option.map_eq_some_iff] at hz
  obtain ⟨o, ho, rfl⟩ := hz
  exact h W H x y d e o Q hs hx hy ho (q.f hs)
end
def m2 (f : D → D → Option D) (a b : M Pl) : M D := fun s => (a s).bind fun x s => (b s).bind fun y s => match x.get s, y.get s with
  | some d, some e => match f d e with
    | some z => .ok z s
    | none => .bad
  | _, _ => .bad
def m2F (f : D → D → Option MO) (a b : M Pl) : M MO := fun s => (a s).bind fun x s => (b s).bind fun y s => match x.get s, y.get s with
  | some d, some e => match f d e with
    | some z => .ok z s
    | none => .bad
  | _, _ => .bad
section
variable {T : List (Addr × Str)} {X : Cx} {W0 : WX} {a b e : Expr} {ma mb : M Pl}
theorem md_two {r : R2} {f : D → D → Option D} (hf : OpD (X.G T) r f) (mk : ∀ ta tb, PE X a ta → PE X b tb → PE X e (tOp r ta tb)) (ha : MP T X W0 a ma) (hb : MP T X W0 b mb) : MD T X W0 e (m2 f ma mb) := by
  obtain ⟨ta, pa, ha⟩ := ha.ex
  obtain ⟨tb, pb, hb⟩ := hb.ex
  refine ⟨_, mk ta tb pa pb, fun σ W H s Q r q => ha σ W H s _ r ((Post.bind q).imp fun x s1 W1 H1 a1 q1 v hv => hb σ W1 H1 s1 _ a1.rel ((Post.bind q1).imp fun y s2 W2 H2 a2 q2 v' hv' => ?_))⟩
  have hv2 := hv.mono a2.stp.data
  cases e1 : x.get s2 with
  | none => simp only [e1] at q2; exact q2.elim
  | some d =>
    cases e2 : y.get s2 with
    | none => simp only [e1, e2] at q2; exact q2.elim
    | some d' =>
      simp only [e1, e2] at q2
      cases e3 : f d d' with
      | none => simp only [e3] at q2; exact q2.elim
      | some z =>
        simp only [e3] at q2
        exact hf W2 H2 v v' d d' z Q a2.rel.sub (hv2.readR a2.rel e1) (hv'.readR a2.rel e2) e3 fun u W' H' st hs hu => q2 W' H' (a2.rel.stp0 st hs) u hu
theorem mf_two {r : R2} {f : D → D → Option MO} (hf : OpF (X.G T) r f) (mk : ∀ ta tb, PE X a ta → PE X b tb → PE X e (tOp r ta tb)) (ha : MP T X W0 a ma) (hb : MP T X W0 b mb) : MF T X W0 e (m2F f ma mb) := by
  obtain ⟨ta, pa, ha⟩ := ha.ex
  obtain ⟨tb, pb, hb⟩ := hb.ex
  refine ⟨_, mk ta tb pa pb, fun σ W H s Q r q => ha σ W H s _ r ?_⟩
  have q : Post (X.G T) W0 s σ W H ((ma s).bind _) (KF (X.G T) H Q) := q
  -- the address must be new at the expression's beginning
  refine Post.imp (Kt := fun x s1 W1 H1 => Post (X.G T) W0 s1 σ W1 H1 _ (KF (X.G T) H Q)) (Post.bind q) fun x s1 W1 H1 a1 q1 v hv => hb σ W1 H1 s1 _ a1.rel ((Post.bind q1).imp fun y s2 W2 H2 a2 q2 v' hv' => ?_)
  have hv2 := hv.mono a2.stp.data
  cases e1 : x.get s2 with
  | none => simp only [e1] at q2; exact q2.elim
  | some d =>
    cases e2 : y.get s2 with
    | none => simp only [e1, e2] at q2; exact q2.elim
    | some d' =>
      simp only [e1, e2] at q2
      cases e3 : f d d' with
      | none => simp only [e3] at q2; exact q2.elim
      | some z =>
        simp only [e3] at q2
        refine hf W2 H2 v v' d d' z Q a2.rel.sub (hv2.readR a2.rel e1) (hv'.readR a2.rel e2) e3 fun p u hp hu => ?_
        exact q2 W2 (upd H2 p u) (.newO a2.rel hp) p u ((a1.trans a2).stp.back hp) upd_same (a2.rel.sub.free hp) hu
end
end Mv

set_option Elab.async false
set_option linter.all false
set_option maxRecDepth 100000
set_option maxHeartbeats 2000000
/-! Mv3: the operators by what they make of data. -/
namespace Mv
open PySem PySem.Spec PyProof.Rows L2

section
variable {G : En} {W H : Hp} {v : V}
theorem RepR.tup {xs : List D} (hs : Same W H) (h : RepR G W H v (.tup xs)) : ∃ a vs, v = .ref a ∧ W a = some (.tup vs) ∧ Reps G W vs xs ∧ Rep G W v (.tup xs) := by
  rcases h with h | ⟨p, u, o, rfl, h1, h2, e⟩
  · have h0 := h
    cases h with
    | tup h r => exact ⟨_, _, rfl, h, r, h0⟩
  · cases h2 <;> cases e
theorem Reps.nil_iff {vs : List V} {ds : List D} (r : Reps G W vs ds) : vs = [] ↔ ds = [] := by
  cases r <;> simp
end

/-! ### + - * and so on -/
def oAddI : D → D → Option D
  | .int i, .int j => some (.int (i + j))
  | .str x, .str y => if x.length + y.length ≤ sizeLine then some (.str (x ++ y)) else none
  | .tup xs, .tup ys => if xs.length + ys.length ≤ sizeLine then some (.tup (xs ++ ys)) else none
  | _, _ => none
def oAddL : D → D → Option MO
  | .lst xs, .lst ys => if xs.length + ys.length ≤ sizeLine then some (.lst (xs ++ ys)) else none
  | _, _ => none
def oAdd : D → D → Option D
  | .int i, .int j => some (.int (i + j))
  | .str x, .str y => if x.length + y.length ≤ sizeLine then some (.str (x ++ y)) else none
  | .tup xs, .tup ys => if xs.length + ys.length ≤ sizeLine then some (.tup (xs ++ ys)) else none
  | .lst xs, .lst ys => if xs.length + ys.length ≤ sizeLine then some (.lst (xs ++ ys)) else none
  | _, _ => none
def rAddI (K : PySem.W.Frag) : R2 := fun x y H Q => (∃ i j, x = .int i ∧ y = .int j ∧ Q (.int (i + j)) H) ∨ (∃ i j, x = .str i ∧ y = .str j ∧ i.length + j.length ≤ sizeLine ∧ Q (.str (i ++ j)) H) ∨ rCatA K x y H Q
def rAddA (K : PySem.W.Frag) : R2 := fun x y H Q => rCat x y H Q ∨ rAddI K x y H Q
section
variable {T : List (Addr × Str)} {X : Cx} {G : En}
theorem opr_add : OpR X (binaryOp .Add) (rAddA X.K) := op_cat.or (op_add.or (op_add_str.or op_catA))
theorem opf_add : OpF G (rAddA G.K) oAddL := fun W H x y d e z Q hs hx hy hz q => by
  unfold oAddL at hz
  split at hz
  · rename_i xs ys
    split at hz
    · rename_i hl
      cases hz
      obtain ⟨a, vs, rfl, h1, r1⟩ := hx.lst hs
      obtain ⟨b, ws, rfl, h2, r2⟩ := hy.lst hs
      exact .inl ⟨a, b, vs, ws, rfl, rfl, h1, h2, by rw [r1.length, r2.length]; exact hl, fun p hp => q p _ hp (.lst (r1.append r2))⟩
    · cases hz
  · cases hz
theorem opd_add : OpD G (rAddA G.K) oAdd := fun W H x y d e z Q hs hx hy hz q => by
  unfold oAdd at hz
  split at hz
  · cases hz
    have e1 := hx.int; have e2 := hy.int
    subst e1; subst e2
    exact .inr (.inl ⟨_, _, rfl, rfl, q.here hs (.int _)⟩)
  · split at hz
    · rename_i hl
      cases hz
      have e1 := hx.str; have e2 := hy.str
      subst e1; subst e2
      exact .inr (.inr (.inl ⟨_, _, rfl, rfl, hl, q.here hs (.str _)⟩))
    · cases hz
  · split at hz
    · rename_i hl
      cases hz
      obtain ⟨a, vs, rfl, h1, r1, p1⟩ := hx.tup hs
      obtain ⟨b, ws, rfl, h2, r2, p2⟩ := hy.tup hs
      refine .inr (.inr (.inr ⟨a, b, vs, ws, rfl, rfl, SqT.of (hs _ _ h1), SqT.of (hs _ _ h2), by rw [r1.length, r2.length]; exact hl, fun z => ?_, fun z z2 => ?_, fun z z2 p hp => ?_⟩))
      · have := r1.nil_iff.mp z
        subst this
        exact q.here hs (by simpa using p2)
      · have := r2.nil_iff.mp z2
        subst this
        exact q.here hs (by simpa using p1)
      · exact q.tup hs (r1.append r2) hp
    · cases hz
  · split at hz
    · rename_i xs ys hl
      cases hz
      exact opf_add W H x y _ _ (.lst (xs ++ ys)) Q hs hx hy (by simp [oAddL, hl]) (q.f hs)
    · cases hz
  · cases hz
def oI (f : Int → Int → Option Int) : D → D → Option D
  | .int i, .int j => (f i j).map .int
  | _, _ => none
theorem opd_I {C : Int → Int → Prop} {g : Int → Int → Int} {f : Int → Int → Option Int} (h : ∀ i j k, f i j = some k → C i j ∧ k = g i j) : OpD G (rI C fun i j => .int (g i j)) (oI f) := fun W H x y d e z Q hs hx hy hz q => by
  unfold oI at hz
  split at hz
  · rename_i i j
    simp only [Option.map_eq_some_iff] at hz
    obtain ⟨k, hk, rfl⟩ := hz
    obtain ⟨h1, rfl⟩ := h i j k hk
    have e1 := hx.int; have e2 := hy.int
    subst e1; subst e2
    exact ⟨_, _, rfl, rfl, h1, q.here hs (.int _)⟩
  · cases hz
theorem opd_I0 {g : Int → Int → Int} : OpD G (rI0 fun i j => .int (g i j)) (oI fun i j => some (g i j)) := fun W H x y d e z Q hs hx hy hz q => by
  unfold oI at hz
  split at hz
  · rename_i i j
    cases hz
    have e1 := hx.int; have e2 := hy.int
    subst e1; subst e2
    exact ⟨_, _, rfl, rfl, q.here hs (.int _)⟩
  · cases hz
def fMul (i j : Int) : Option Int := if i.natAbs < 2 ^ 64 ∨ j.natAbs < 2 ^ 64 then some (i * j) else none
def fDiv (i j : Int) : Option Int := if 0 < j ∧ j < 1073741824 then some (i / j) else none
def fMod (i j : Int) : Option Int := if 0 < j then some (i % j) else none
def fPow (i j : Int) : Option Int := if 0 ≤ j ∧ j ≤ 1000000 ∧ i.natAbs < 2 ^ 64 then some (i ^ j.toNat) else none
def fShl (i j : Int) : Option Int := if 0 ≤ j ∧ j ≤ 1000000 ∧ i.natAbs < 2 ^ 64 then some (i * 2 ^ j.toNat) else none
def fShr (i j : Int) : Option Int := if 0 ≤ j then some (i / 2 ^ j.toNat) else none
abbrev oSub := oI fun i j => some (i - j)
abbrev oDiv := oI fDiv
abbrev oMod := oI fMod
abbrev oPow := oI fPow
abbrev oShl := oI fShl
abbrev oShr := oI fShr
abbrev oAnd := oI fun i j => some (Builtin.bitAnd i j)
abbrev oOr := oI fun i j => some (Builtin.bitOr i j)
abbrev oXor := oI fun i j => some (Builtin.bitXor i j)
theorem opd_div : OpD G (rI CDiv fun i j => .int (i / j)) oDiv := opd_I fun i j k h => by
  unfold fDiv at h; split at h
  · rename_i c; cases h; exact ⟨c, rfl⟩
  · cases h
theorem opd_mod : OpD G (rI (fun _ j => 0 < j) fun i j => .int (i % j)) oMod := opd_I fun i j k h => by
  unfold fMod at h; split at h
  · rename_i c; cases h; exact ⟨c, rfl⟩
  · cases h
theorem opd_pow : OpD G (rI CPow fun i j => .int (i ^ j.toNat)) oPow := opd_I fun i j k h => by
  unfold fPow at h; split at h
  · rename_i c; cases h; exact ⟨c, rfl⟩
  · cases h
theorem opd_shl : OpD G (rI CPow fun i j => .int (i * 2 ^ j.toNat)) oShl := opd_I fun i j k h => by
  unfold fShl at h; split at h
  · rename_i c; cases h; exact ⟨c, rfl⟩
  · cases h
theorem opd_shr : OpD G (rI (fun _ j => 0 ≤ j) fun i j => .int (i / 2 ^ j.toNat)) oShr := opd_I fun i j k h => by
  unfold fShr at h; split at h
  · rename_i c; cases h; exact ⟨c, rfl⟩
  · cases h
/-- * of ints; of a list and an int -/
def oMulL : D → D → Option MO
  | .lst xs, .int k => if k < 2 ^ 63 ∧ -(2 ^ 63) ≤ k ∧ xs.length * k.toNat ≤ sizeLine then some (.lst (List.replicate k.toNat xs).flatten) else none
  | _, _ => none
def oMul : D → D → Option D
  | .int i, .int j => (fMul i j).map .int
  | .lst xs, .int k => if k < 2 ^ 63 ∧ -(2 ^ 63) ≤ k ∧ xs.length * k.toNat ≤ sizeLine then some (.lst (List.replicate k.toNat xs).flatten) else none
  | _, _ => none
def rMulA : R2 := fun x y H Q => rRep x y H Q ∨ rI CMul (fun i j => .int (i * j)) x y H Q
theorem opr_mul : OpR X (binaryOp .Mult) rMulA := op_rep.or op_mul
theorem Reps.rep {W : Hp} {vs : List V} {ds : List D} (r : Reps G W vs ds) : ∀ n : Nat, Reps G W (List.replicate n vs).flatten (List.replicate n ds).flatten
  | 0 => .nil
  | n + 1 => by
    rw [List.replicate_succ, List.replicate_succ, List.flatten_cons, List.flatten_cons]
    exact r.append (Reps.rep r n)
theorem opf_mul : OpF G rMulA oMulL := fun W H x y d e z Q hs hx hy hz q => by
  unfold oMulL at hz
  split at hz
  · rename_i xs k
    split at hz
    · rename_i hl
      cases hz
      obtain ⟨a, vs, rfl, h1, r1⟩ := hx.lst hs
      have e2 := hy.int
      subst e2
      exact .inl ⟨a, k, vs, rfl, rfl, h1, hl.2.1, hl.1, by rw [r1.length]; exact hl.2.2, fun p hp => q p _ hp (.lst (r1.rep _))⟩
    · cases hz
  · cases hz
theorem opd_mul : OpD G rMulA oMul := fun W H x y d e z Q hs hx hy hz q => by
  unfold oMul at hz
  split at hz
  · rename_i i j
    simp only [Option.map_eq_some_iff] at hz
    obtain ⟨k, hk, rfl⟩ := hz
    unfold fMul at hk
    split at hk
    · rename_i c
      cases hk
      have e1 := hx.int; have e2 := hy.int
      subst e1; subst e2
      refine .inr ⟨_, _, rfl, rfl, ?_, q.here hs (.int _)⟩
      rcases c with c | c
      · exact .inl ⟨by omega, by omega⟩
      · exact .inr ⟨by omega, by omega⟩
    · cases hk
  · split at hz
    · rename_i xs k hl
      cases hz
      exact opf_mul W H x y _ _ (.lst _) Q hs hx hy (by simp only [oMulL, hl, and_self, if_true]) (q.f hs)
    · cases hz
  · cases hz
end
section
variable {T : List (Addr × Str)} {X : Cx} {W0 : WX} {a b : Expr} {ma mb : M Pl} {pos : Pos}
theorem md_add (ha : MP T X W0 a ma) (hb : MP T X W0 b mb) : MD T X W0 (.BinOp a .Add b pos) (m2 oAdd ma mb) := md_two opd_add (fun _ _ p q => pe_op opr_add p q) ha hb
theorem mf_add (ha : MP T X W0 a ma) (hb : MP T X W0 b mb) : MF T X W0 (.BinOp a .Add b pos) (m2F oAddL ma mb) := mf_two opf_add (fun _ _ p q => pe_op opr_add p q) ha hb
theorem md_sub (ha : MP T X W0 a ma) (hb : MP T X W0 b mb) : MD T X W0 (.BinOp a .Sub b pos) (m2 oSub ma mb) := md_two (r := rI0 fun i j => .int (i - j)) opd_I0 (fun _ _ p q => pe_op op_sub p q) ha hb
theorem md_mul (ha : MP T X W0 a ma) (hb : MP T X W0 b mb) : MD T X W0 (.BinOp a .Mult b pos) (m2 oMul ma mb) := md_two opd_mul (fun _ _ p q => pe_op opr_mul p q) ha hb
theorem mf_mul (ha : MP T X W0 a ma) (hb : MP T X W0 b mb) : MF T X W0 (.BinOp a .Mult b pos) (m2F oMulL ma mb) := mf_two opf_mul (fun _ _ p q => pe_op opr_mul p q) ha hb
theorem md_fdiv (ha : MP T X W0 a ma) (hb : MP T X W0 b mb) : MD T X W0 (.BinOp a .FloorDiv b pos) (m2 oDiv ma mb) := md_two opd_div (fun _ _ p q => pe_op op_fdiv p q) ha hb
theorem md_mod (ha : MP T X W0 a ma) (hb : MP T X W0 b mb) : MD T X W0 (.BinOp a .Mod b pos) (m2 oMod ma mb) := md_two opd_mod (fun _ _ p q => pe_op op_mod p q) ha hb
theorem md_pow (ha : MP T X W0 a ma) (hb : MP T X W0 b mb) : MD T X W0 (.BinOp a .Pow b pos) (m2 oPow ma mb) := md_two opd_pow (fun _ _ p q => pe_op op_pow p q) ha hb
theorem md_shl (ha : MP T X W0 a ma) (hb : MP T X W0 b mb) : MD T X W0 (.BinOp a .LShift b pos) (m2 oShl ma mb) := md_two opd_shl (fun _ _ p q => pe_op op_shl p q) ha hb
theorem md_shr (ha : MP T X W0 a ma) (hb : MP T X W0 b mb) : MD T X W0 (.BinOp a .RShift b pos) (m2 oShr ma mb) := md_two opd_shr (fun _ _ p q => pe_op op_shr p q) ha hb
theorem md_band (ha : MP T X W0 a ma) (hb : MP T X W0 b mb) : MD T X W0 (.BinOp a .BitAnd b pos) (m2 oAnd ma mb) := md_two (r := rI0 fun i j => .int (Builtin.bitAnd i j)) opd_I0 (fun _ _ p q => pe_op op_and p q) ha hb
theorem md_bor (ha : MP T X W0 a ma) (hb : MP T X W0 b mb) : MD T X W0 (.BinOp a .BitOr b pos) (m2 oOr ma mb) := md_two (r := rI0 fun i j => .int (Builtin.bitOr i j)) opd_I0 (fun _ _ p q => pe_op op_or p q) ha hb
theorem md_bxor (ha : MP T X W0 a ma) (hb : MP T X W0 b mb) : MD T X W0 (.BinOp a .BitXor b pos) (m2 oXor ma mb) := md_two (r := rI0 fun i j => .int (Builtin.bitXor i j)) opd_I0 (fun _ _ p q => pe_op op_xor p q) ha hb
end

/-! ### comparisons -/
def oLt : D → D → Option D
  | .int i, .int j => some (.bl (decide (i < j)))
  | .str i, .str j => some (.bl (decide (i.cps.toList < j.cps.toList)))
  | _, _ => none
def oLe : D → D → Option D
  | .int i, .int j => some (.bl (decide (i ≤ j)))
  | .str i, .str j => some (.bl (!decide (j.cps.toList < i.cps.toList)))
  | _, _ => none
def oGt : D → D → Option D
  | .int i, .int j => some (.bl (decide (j < i)))
  | .str i, .str j => some (.bl (decide (j.cps.toList < i.cps.toList)))
  | _, _ => none
def oGe : D → D → Option D
  | .int i, .int j => some (.bl (decide (j ≤ i)))
  | .str i, .str j => some (.bl (!decide (i.cps.toList < j.cps.toList)))
  | _, _ => none
section
variable {T : List (Addr × Str)} {X : Cx} {G : En}
def rIS (f : Int → Int → Bool) (g : Str → Str → Bool) : R2 := fun x y H Q => (∃ i j, x = .int i ∧ y = .int j ∧ Q (.bl (f i j)) H) ∨ (∃ i j, x = .str i ∧ y = .str j ∧ Q (.bl (g i j)) H)
theorem opr_lt : OpR X (compareOp .Lt) (rIS (fun i j => decide (i < j)) fun i j => decide (i.cps.toList < j.cps.toList)) := op_lt.or op_lt_str
theorem opr_le : OpR X (compareOp .LtE) (rIS (fun i j => decide (i ≤ j)) fun i j => !decide (j.cps.toList < i.cps.toList)) := op_le.or op_le_str
theorem opr_gt : OpR X (compareOp .Gt) (rIS (fun i j => decide (j < i)) fun i j => decide (j.cps.toList < i.cps.toList)) := op_gt.or op_gt_str
theorem opr_ge : OpR X (compareOp .GtE) (rIS (fun i j => decide (j ≤ i)) fun i j => !decide (i.cps.toList < j.cps.toList)) := op_ge.or op_ge_str
theorem opd_IS {f : Int → Int → Bool} {g : Str → Str → Bool} {o : D → D → Option D} (h : ∀ d e z, o d e = some z → (∃ i j, d = .int i ∧ e = .int j ∧ z = .bl (f i j)) ∨ (∃ i j, d = .str i ∧ e = .str j ∧ z = .bl (g i j))) : OpD G (rIS f g) o := fun W H x y d e z Q hs hx hy hz q => by
  rcases h d e z hz with ⟨i, j, rfl, rfl, rfl⟩ | ⟨i, j, rfl, rfl, rfl⟩
  · exact .inl ⟨_, _, hx.int, hy.int, q.here hs (.bl _)⟩
  · exact .inr ⟨_, _, hx.str, hy.str, q.here hs (.bl _)⟩
theorem opd_lt : OpD G (rIS (fun i j => decide (i < j)) fun i j => decide (i.cps.toList < j.cps.toList)) oLt := opd_IS fun d e z h => by
  unfold oLt at h; split at h <;> cases h
  · exact .inl ⟨_, _, rfl, rfl, rfl⟩
  · exact .inr ⟨_, _, rfl, rfl, rfl⟩
theorem opd_le : OpD G (rIS (fun i j => decide (i ≤ j)) fun i j => !decide (j.cps.toList < i.cps.toList)) oLe := opd_IS fun d e z h => by
  unfold oLe at h; split at h <;> cases h
  · exact .inl ⟨_, _, rfl, rfl, rfl⟩
  · exact .inr ⟨_, _, rfl, rfl, rfl⟩
theorem opd_gt : OpD G (rIS (fun i j => decide (j < i)) fun i j => decide (j.cps.toList < i.cps.toList)) oGt := opd_IS fun d e z h => by
  unfold oGt at h; split at h <;> cases h
  · exact .inl ⟨_, _, rfl, rfl, rfl⟩
  · exact .inr ⟨_, _, rfl, rfl, rfl⟩
theorem opd_ge : OpD G (rIS (fun i j => decide (j ≤ i)) fun i j => !decide (i.cps.toList < j.cps.toList)) oGe := opd_IS fun d e z h => by
  unfold oGe at h; split at h <;> cases h
  · exact .inl ⟨_, _, rfl, rfl, rfl⟩
  · exact .inr ⟨_, _, rfl, rfl, rfl⟩
/-- == -/
def deepEq (d e : D) : Option Bool := match d.py, e.py with
  | some a, some b => if SeqAt.shaped a = true ∧ SeqAt.shaped b = true then some (PyData.eqv a b) else none
  | _, _ => none
def eqB : D → D → Option Bool
  | .int i, .int j => some (decide (i = j))
  | .str i, .str j => some (decide (i = j))
  | .bl i, .bl j => some (decide (i = j))
  | .non, .non => some true
  | .non, .int _ => some false
  | .int _, .non => some false
  | .non, .bl _ => some false
  | .bl _, .non => some false
  | .non, .str _ => some false
  | .str _, .non => some false
  | .int _, .str _ => some false
  | .str _, .int _ => some false
  | .bl _, .str _ => some false
  | .str _, .bl _ => some false
  | d, e => deepEq d e
def oEq (d e : D) : Option D := (eqB d e).map .bl
def oNe (d e : D) : Option D := (eqB d e).map fun b => .bl (!b)
def rEqA (K : PySem.W.Frag) : R2 := fun x y H Q => rEq x y H Q ∨ rEqD K x y H Q
def rNeA (K : PySem.W.Frag) : R2 := fun x y H Q => rNe x y H Q ∨ rNeD K x y H Q
theorem opr_eq (hu : X.A.units + 64 < cLine) : OpR X (compareOp .Eq) (rEqA X.K) := op_eq.or (op_eqD hu)
theorem opr_ne (hu : X.A.units + 64 < cLine) : OpR X (compareOp .NotEq) (rNeA X.K) := op_ne.or (op_neD hu)
theorem eqB_cases {W H : Hp} {x y : V} {d e : D} {b : Bool} (hs : Same W H) (hx : RepR G W H x d) (hy : RepR G W H y e) (h : eqB d e = some b) :
    (scal x y = true ∧ b = decide (x = y)) ∨ ∃ p q, Dp G.K H x p ∧ Dp G.K H y q ∧ SeqAt.shaped p = true ∧ SeqAt.shaped q = true ∧ b = PyData.eqv p q := by
  have deep : ∀ {d e : D}, RepR G W H x d → RepR G W H y e → deepEq d e = some b → ∃ p q, Dp G.K H x p ∧ Dp G.K H y q ∧ SeqAt.shaped p = true ∧ SeqAt.shaped q = true ∧ b = PyData.eqv p q := fun {d e} hx hy h => by
    unfold deepEq at h
    split at h
    · rename_i p q e1 e2
      split at h
      · rename_i c
        cases h
        exact ⟨p, q, (hx.rep hs).dp e1, (hy.rep hs).dp e2, c.1, c.2, rfl⟩
      · cases h
    · cases h
  unfold eqB at h
  split at h
  case h_15 => exact .inr (deep hx hy h)
  all_goals
    cases h
    refine .inl ?_
    first
      | (have e1 := hx.int; subst e1) | (have e1 := hx.str; subst e1) | (have e1 := hx.bl; subst e1) | (have e1 := hx.non; subst e1)
    first
      | (have e2 := hy.int; subst e2) | (have e2 := hy.str; subst e2) | (have e2 := hy.bl; subst e2) | (have e2 := hy.non; subst e2)
    exact ⟨rfl, by simp⟩
theorem opd_eq : OpD G (rEqA G.K) oEq := fun W H x y d e z Q hs hx hy hz q => by
  simp only [oEq, Option.map_eq_some_iff] at hz
  obtain ⟨b, hb, rfl⟩ := hz
  rcases eqB_cases hs hx hy hb with ⟨h1, rfl⟩ | ⟨p, r, h1, h2, h3, h4, rfl⟩
  · exact .inl ⟨h1, q.here hs (.bl _)⟩
  · exact .inr ⟨p, r, h1, h2, h3, h4, q.here hs (.bl _)⟩
theorem opd_ne : OpD G (rNeA G.K) oNe := fun W H x y d e z Q hs hx hy hz q => by
  simp only [oNe, Option.map_eq_some_iff] at hz
  obtain ⟨b, hb, rfl⟩ := hz
  rcases eqB_cases hs hx hy hb with ⟨h1, rfl⟩ | ⟨p, r, h1, h2, h3, h4, rfl⟩
  · exact .inl ⟨h1, q.here hs (.bl _)⟩
  · exact .inr ⟨p, r, h1, h2, h3, h4, q.here hs (.bl _)⟩
/-- is, is not: None, True, False at the right -/
def D.isNon : D → Bool
  | .non => true
  | _ => false
def oIs : D → D → Option D
  | .raw _, _ => none
  | d, .non => some (.bl d.isNon)
  | .bl a, .bl b => some (.bl (decide (a = b)))
  | _, _ => none
def oIsN : D → D → Option D
  | .raw _, _ => none
  | d, .non => some (.bl (!d.isNon))
  | .bl a, .bl b => some (.bl (!decide (a = b)))
  | _, _ => none
def rIsA : R2 := fun x y H Q => (y = .non ∧ Q (.bl (decide (x = .non))) H) ∨ rIsB x y H Q
def rNotA : R2 := fun x y H Q => (y = .non ∧ Q (.bl (!decide (x = .non))) H) ∨ rNotB x y H Q
theorem opr_is : OpR X (compareOp .Is) rIsA := op_isN.or op_isBl
theorem opr_isnot : OpR X (compareOp .IsNot) rNotA := op_notN.or op_notBl
theorem isNon_dec {W H : Hp} {x : V} {d : D} (hx : RepR G W H x d) (hr : ∀ v, d ≠ .raw v) : decide (x = .non) = d.isNon := by
  rcases hx with h | ⟨p, u, o, rfl, h1, h2, e⟩
  · cases h <;> first | rfl | exact absurd rfl (hr _)
  · cases h2 <;> (subst e; rfl)
theorem opd_is : OpD G rIsA oIs := fun W H x y d e z Q hs hx hy hz q => by
  unfold oIs at hz
  split at hz
  · cases hz
  · rename_i hr
    cases hz
    refine .inl ⟨hy.non, ?_⟩
    rw [isNon_dec hx fun v e => hr v e]
    exact q.here hs (.bl _)
  · cases hz
    have e1 := hx.bl; have e2 := hy.bl
    subst e1; subst e2
    exact .inr ⟨_, _, rfl, rfl, q.here hs (.bl _)⟩
  · cases hz
theorem opd_isnot : OpD G rNotA oIsN := fun W H x y d e z Q hs hx hy hz q => by
  unfold oIsN at hz
  split at hz
  · cases hz
  · rename_i hr
    cases hz
    refine .inl ⟨hy.non, ?_⟩
    rw [isNon_dec hx fun v e => hr v e]
    exact q.here hs (.bl _)
  · cases hz
    have e1 := hx.bl; have e2 := hy.bl
    subst e1; subst e2
    exact .inr ⟨_, _, rfl, rfl, q.here hs (.bl _)⟩
  · cases hz
end
end Mv

set_option Elab.async false
set_option linter.all false
set_option maxRecDepth 100000
set_option maxHeartbeats 2000000
/-! Mv4: comparisons and tests, subscripts and slices, displays, calls of built-ins. -/
namespace Mv
open PySem PySem.Spec PyProof.Rows L2

/-- a comparison by its rule -/
structure Cmp (T : List (Addr × Str)) (X : Cx) (op : CmpOp) (f : D → D → Option D) : Prop where
  ex : ∃ r : R2, OpR X (compareOp op) r ∧ OpD (X.G T) r f
section
variable {T : List (Addr × Str)} {X : Cx}
theorem c_lt : Cmp T X .Lt oLt := ⟨_, opr_lt, opd_lt⟩
theorem c_le : Cmp T X .LtE oLe := ⟨_, opr_le, opd_le⟩
theorem c_gt : Cmp T X .Gt oGt := ⟨_, opr_gt, opd_gt⟩
theorem c_ge : Cmp T X .GtE oGe := ⟨_, opr_ge, opd_ge⟩
theorem c_eq (hu : X.A.units + 64 < cLine) : Cmp T X .Eq oEq := ⟨_, opr_eq hu, opd_eq⟩
theorem c_ne (hu : X.A.units + 64 < cLine) : Cmp T X .NotEq oNe := ⟨_, opr_ne hu, opd_ne⟩
theorem c_is : Cmp T X .Is oIs := ⟨_, opr_is, opd_is⟩
theorem c_isn : Cmp T X .IsNot oIsN := ⟨_, opr_isnot, opd_isnot⟩
end
/-- a truth value out of data -/
def mB (m : M D) : M Bool := fun s => (m s).bind fun d s => match d with
  | .bl b => .ok b s
  | _ => .bad
section
variable {T : List (Addr × Str)} {X : Cx} {W0 : WX} {a b c e : Expr} {pos : Pos}
theorem post_b {G : En} {s : S} {σ : L2.St} {W H : Hp} {m : M D} {Q : Bool → Hp → Prop} (q : Post G W0 s σ W H (mB m s) (fun b _ _ H' => Q b H')) : Post G W0 s σ W H (m s) (KD G fun x H' => ∃ k, x = .bl k ∧ Q k H') := by
  refine (Post.bind q).imp fun d s1 W1 H1 a1 q1 v hv => ?_
  cases d with
  | bl b =>
    cases hv
    exact ⟨b, rfl, Post.here a1.rel q1⟩
  | _ => exact q1.elim
theorem md_cmp {op : CmpOp} {f : D → D → Option D} {ma mb : M Pl} (r : Cmp T X op f) (ha : MP T X W0 a ma) (hb : MP T X W0 b mb) (hm : behindInMarks op b = false := by first | exact nomark _ | rfl) : MD T X W0 (.Compare a [op] [b] pos) (m2 f ma mb) := by
  obtain ⟨r, h1, h2⟩ := r.ex
  exact md_two h2 (fun _ _ p q => pe_cmpR h1 p q hm) ha hb
theorem mt_cmp {op : CmpOp} {f : D → D → Option D} {ma mb : M Pl} (r : Cmp T X op f) (ha : MP T X W0 a ma) (hb : MP T X W0 b mb) (hm : behindInMarks op b = false := by first | exact nomark _ | rfl) : MT T X W0 (.Compare a [op] [b] pos) (mB (m2 f ma mb)) := by
  obtain ⟨r, h1, h2⟩ := r.ex
  obtain ⟨ta, pa, ha⟩ := ha.ex
  obtain ⟨tb, pb, hb⟩ := hb.ex
  obtain ⟨t, pt, ht⟩ := (md_two (e := .Compare a [op] [b] pos) h2 (fun ta tb p q => pe_cmpR h1 p q hm) ⟨ta, pa, ha⟩ ⟨tb, pb, hb⟩).ex
  -- the reading is that of the operands
  have md : ∀ σ W H s Q, RelS (X.G T) W H σ s → Post (X.G T) W0 s σ W H (m2 f ma mb s) (KD (X.G T) Q) → tOp r ta tb σ H Q := by
    intro σ W H s Q rl q
    refine ha σ W H s _ rl ((Post.bind q).imp fun x s1 W1 H1 a1 q1 v hv => hb σ W1 H1 s1 _ a1.rel ((Post.bind q1).imp fun y s2 W2 H2 a2 q2 v' hv' => ?_))
    have hv2 := hv.mono a2.stp.data
    cases e1 : x.get s2 with
    | none => simp only [e1] at q2; exact q2.elim
    | some d =>
      cases e2 : y.get s2 with
      | none => simp only [e1, e2] at q2; exact q2.elim
      | some d' =>
        simp only [e1, e2] at q2
        cases e3 : f d d' with
        | none => simp only [e3] at q2; exact q2.elim
        | some z =>
          simp only [e3] at q2
          exact h2 W2 H2 v v' d d' z Q a2.rel.sub (hv2.readR a2.rel e1) (hv'.readR a2.rel e2) e3 fun u W' H' st hs hu => q2 W' H' (a2.rel.stp0 st hs) u hu
  exact ⟨_, pt_cmpR h1 pa pb hm, fun σ W H s Q rl q => md σ W H s _ rl (post_b q)⟩
/-- a op b op' c -/
def mChain (f g : D → D → Option D) (a b c : M Pl) : M D := fun s => (a s).bind fun x s => (b s).bind fun y s => match x.get s, y.get s with
  | some d, some e => match f d e with
    | some (.bl k) => if k = true then (c s).bind fun z s => match y.get s, z.get s with
        | some d, some e => match g d e with
          | some u => .ok u s
          | none => .bad
        | _, _ => .bad
      else .ok (.bl false) s
    | _ => .bad
  | _, _ => .bad
theorem chain_read {r r' : R2} {f g : D → D → Option D} {ma mb mc : M Pl} {ta tb tc : TE} (h1 : OpD (X.G T) r f) (h2 : OpD (X.G T) r' g)
    (ha : ∀ σ W H s Q, RelS (X.G T) W H σ s → Post (X.G T) W0 s σ W H (ma s) (fun pl _ W' H' => ∀ v, PlOk (X.G T) W' σ v pl → Q v H') → ta σ H Q)
    (hb : ∀ σ W H s Q, RelS (X.G T) W H σ s → Post (X.G T) W0 s σ W H (mb s) (fun pl _ W' H' => ∀ v, PlOk (X.G T) W' σ v pl → Q v H') → tb σ H Q)
    (hc : ∀ σ W H s Q, RelS (X.G T) W H σ s → Post (X.G T) W0 s σ W H (mc s) (fun pl _ W' H' => ∀ v, PlOk (X.G T) W' σ v pl → Q v H') → tc σ H Q) :
    ∀ σ W H s Q, RelS (X.G T) W H σ s → Post (X.G T) W0 s σ W H (mChain f g ma mb mc s) (KD (X.G T) Q) → tChain r r' ta tb tc σ H Q := by
  intro σ W H s Q rl q
  refine ha σ W H s _ rl ((Post.bind q).imp fun x s1 W1 H1 a1 q1 v hv => hb σ W1 H1 s1 _ a1.rel ((Post.bind q1).imp fun y s2 W2 H2 a2 q2 v' hv' => ?_))
  have hv2 := hv.mono a2.stp.data
  cases e1 : x.get s2 with
  | none => simp only [e1] at q2; exact q2.elim
  | some d =>
    cases e2 : y.get s2 with
    | none => simp only [e1, e2] at q2; exact q2.elim
    | some d' =>
      simp only [e1, e2] at q2
      cases e3 : f d d' with
      | none => simp only [e3] at q2; exact q2.elim
      | some z =>
        simp only [e3] at q2
        cases z with
        | bl k =>
          refine h1 W2 H2 v v' d d' _ _ a2.rel.sub (hv2.readR a2.rel e1) (hv'.readR a2.rel e2) e3 fun u W3 H3 st hs hu => ?_
          cases hu
          refine ⟨k, rfl, ?_⟩
          have a3 := a2.rel.stp0 st hs
          cases k with
          | false =>
            rw [if_neg Bool.false_ne_true]
            exact q2 W3 H3 a3 _ (.bl false)
          | true =>
            rw [if_pos rfl]
            have q3 : Post (X.G T) W0 s2 σ W2 H2 ((mc s2).bind _) (KD (X.G T) Q) := q2
            have q3' : Post (X.G T) W0 s2 σ W3 H3 ((mc s2).bind fun z s => match y.get s, z.get s with
              | some d, some e => match g d e with
                | some u => .ok u s
                | none => .bad
              | _, _ => .bad) (KD (X.G T) Q) := by
              cases em : ((mc s2).bind fun z s => match y.get s, z.get s with
                | some d, some e => match g d e with
                  | some u => R.ok u s
                  | none => .bad
                | _, _ => .bad) with
              | bad => rw [em] at q3; exact q3
              | ex c d s' =>
                rw [em] at q3
                exact fun W4 H4 cl od a4 x => q3 W4 H4 cl od (a3.trans a4) x
              | ok o s' =>
                rw [em] at q3
                exact fun W4 H4 a4 => q3 W4 H4 (a3.trans a4)
            refine hc σ W3 H3 s2 _ a3.rel ((Post.bind q3').imp fun w s4 W4 H4 a4 q4 v4 hv4 => ?_)
            have hy4 := (hv'.mono st.data).mono a4.stp.data
            cases e4 : y.get s4 with
            | none => simp only [e4] at q4; exact q4.elim
            | some d4 =>
              cases e5 : w.get s4 with
              | none => simp only [e4, e5] at q4; exact q4.elim
              | some d5 =>
                simp only [e4, e5] at q4
                cases e6 : g d4 d5 with
                | none => simp only [e6] at q4; exact q4.elim
                | some z6 =>
                  simp only [e6] at q4
                  exact h2 W4 H4 v' v4 d4 d5 z6 Q a4.rel.sub (hy4.readR a4.rel e4) (hv4.readR a4.rel e5) e6 fun u W' H' st hs hu => q4 W' H' (a4.rel.stp0 st hs) u hu
        | _ => exact q2.elim
theorem md_chain {op op' : CmpOp} {f g : D → D → Option D} {ma mb mc : M Pl} (r : Cmp T X op f) (r' : Cmp T X op' g) (ha : MP T X W0 a ma) (hb : MP T X W0 b mb) (hc : MP T X W0 c mc) (hm : lastMarks [op, op'] [b, c] = false := by with_unfolding_all rfl) :
    MD T X W0 (.Compare a [op, op'] [b, c] pos) (mChain f g ma mb mc) := by
  obtain ⟨r, h1, h2⟩ := r.ex
  obtain ⟨r', h1', h2'⟩ := r'.ex
  obtain ⟨ta, pa, ha⟩ := ha.ex
  obtain ⟨tb, pb, hb⟩ := hb.ex
  obtain ⟨tc, pc, hc⟩ := hc.ex
  exact ⟨_, pe_chain h1 h1' pa pb pc hm, chain_read h2 h2' ha hb hc⟩
theorem mt_chain {op op' : CmpOp} {f g : D → D → Option D} {ma mb mc : M Pl} (r : Cmp T X op f) (r' : Cmp T X op' g) (ha : MP T X W0 a ma) (hb : MP T X W0 b mb) (hc : MP T X W0 c mc) (hm : lastMarks [op, op'] [b, c] = false := by with_unfolding_all rfl) :
    MT T X W0 (.Compare a [op, op'] [b, c] pos) (mB (mChain f g ma mb mc)) := by
  obtain ⟨r, h1, h2⟩ := r.ex
  obtain ⟨r', h1', h2'⟩ := r'.ex
  obtain ⟨ta, pa, ha⟩ := ha.ex
  obtain ⟨tb, pb, hb⟩ := hb.ex
  obtain ⟨tc, pc, hc⟩ := hc.ex
  exact ⟨_, pt_chain h1 h1' pa pb pc hm, fun σ W H s Q rl q => chain_read h2 h2' ha hb hc σ W H s _ rl (post_b q)⟩

/-! ### tests -/
/-- an expression that gives True or False -/
theorem mt_val {m : M D} (h : MD T X W0 e m) (he : ∀ whole, isTrue e X.env whole = (do let v ← whole; standAt e.pos; holding [v] (truthy v)) := by intro _; rfl) : MT T X W0 e (mB m) := by
  obtain ⟨t, p, h⟩ := h.ex
  exact ⟨_, pt_val p he, fun σ W H s Q rl q => h σ W H s _ rl (post_b q)⟩
/-- the truth of data -/
def D.tru : D → Option Bool
  | .non => some false
  | .bl b => some b
  | .int i => some (i != 0)
  | .str x => if x.length ≤ sizeLine then some ((x.length : Int) != 0) else none
  | .lst xs => some !xs.isEmpty
  | .rls xs => some !xs.isEmpty
  | .tup xs => some !xs.isEmpty
  | .rtp xs => some !xs.isEmpty
  | _ => none
def mTru (m : M Pl) : M Bool := fun s => (m s).bind fun x s => match x.get s with
  | some d => match d.tru with
    | some b => .ok b s
    | none => .bad
  | none => .bad
theorem reps_empty {G : En} {W : Hp} {vs : List V} {ds : List D} (r : Reps G W vs ds) : vs.isEmpty = ds.isEmpty := by cases r <;> rfl
theorem tru_of {G : En} {W H : Hp} {v : V} {d : D} {b : Bool} (hs : Same W H) (h : RepR G W H v d) (e : d.tru = some b) : TruV G.K v H b := by
  cases d with
  | non => cases e; rw [h.non]; rfl
  | bl k => cases e; rw [h.bl]; rfl
  | int i => cases e; rw [h.int]; rfl
  | str x =>
    simp only [D.tru] at e
    split at e
    · rename_i c
      cases e; rw [h.str]; exact ⟨c, rfl⟩
    · cases e
  | lst xs =>
    cases e
    obtain ⟨a, vs, rfl, h1, h2⟩ := h.seqL hs rfl
    exact .inl ⟨vs, h1, by rw [reps_empty h2]⟩
  | rls xs =>
    cases e
    obtain ⟨a, vs, rfl, h1, h2⟩ := h.seqL hs rfl
    exact .inl ⟨vs, h1, by rw [reps_empty h2]⟩
  | tup xs =>
    cases e
    obtain ⟨a, vs, rfl, h1, h2⟩ := h.seqT hs rfl
    exact .inr (.inl ⟨vs, h1, by rw [reps_empty h2]⟩)
  | rtp xs =>
    cases e
    obtain ⟨a, vs, rfl, h1, h2⟩ := h.seqT hs rfl
    exact .inr (.inl ⟨vs, h1, by rw [reps_empty h2]⟩)
  | _ => cases e
theorem mt_tru {m : M Pl} (h : MP T X W0 e m) (he : ∀ whole, isTrue e X.env whole = (do let v ← whole; standAt e.pos; holding [v] (truthy v)) := by intro _; rfl) : MT T X W0 e (mTru m) := by
  obtain ⟨t, p, h⟩ := h.ex
  refine ⟨_, pt_truth p he, fun σ W H s Q rl q => h σ W H s _ rl ((Post.bind q).imp fun x s1 W1 H1 a1 q1 v hv => ?_)⟩
  cases e1 : x.get s1 with
  | none => simp only [e1] at q1; exact q1.elim
  | some d =>
    simp only [e1] at q1
    cases e2 : d.tru with
    | none => simp only [e2] at q1; exact q1.elim
    | some b =>
      simp only [e2] at q1
      exact ⟨b, tru_of a1.rel.sub (hv.readR a1.rel e1) e2, Post.here a1.rel q1⟩
def mNot (m : M Bool) : M Bool := fun s => (m s).bind fun b s => .ok (!b) s
def mAnd (a b : M Bool) : M Bool := fun s => (a s).bind fun x s => if x = true then b s else .ok false s
def mOr (a b : M Bool) : M Bool := fun s => (a s).bind fun x s => if x = true then .ok true s else b s
theorem MW.t {m : M Bool} (h : MW T X W0 e m) : MT T X W0 e m := by
  obtain ⟨t, p, h⟩ := h.ex
  exact ⟨t, p.pt, h⟩
theorem mt_not {m : M Bool} (h : MT T X W0 a m) : MT T X W0 (.UnaryOp .Not a pos) (mNot m) := by
  obtain ⟨t, p, h⟩ := h.ex
  exact ⟨_, pt_not p, fun σ W H s Q rl q => h σ W H s _ rl ((Post.bind q).imp fun x s1 W1 H1 a1 q1 => Post.here a1.rel q1)⟩
theorem mw_and1 {m : M Bool} (h : MT T X W0 a m) : MW T X W0 (.BoolOp .And [a] pos) m := by
  obtain ⟨t, p, h⟩ := h.ex
  exact ⟨t, pw_and1 p, h⟩
theorem mw_or1 {m : M Bool} (h : MT T X W0 a m) : MW T X W0 (.BoolOp .Or [a] pos) m := by
  obtain ⟨t, p, h⟩ := h.ex
  exact ⟨t, pw_or1 p, h⟩
theorem mw_and {rest : List Expr} {m n : M Bool} (h : MT T X W0 a m) (h2 : MW T X W0 (.BoolOp .And (b :: rest) pos) n) : MW T X W0 (.BoolOp .And (a :: b :: rest) pos) (mAnd m n) := by
  obtain ⟨t, p, h⟩ := h.ex
  obtain ⟨t2, p2, h2⟩ := h2.ex
  refine ⟨_, pw_and p p2, fun σ W H s Q rl q => h σ W H s _ rl ((Post.bind q).imp fun x s1 W1 H1 a1 q1 => ?_)⟩
  cases x with
  | true =>
    rw [if_pos rfl] at q1 ⊢
    exact h2 σ W1 H1 s1 Q a1.rel q1
  | false =>
    rw [if_neg Bool.false_ne_true] at q1 ⊢
    exact Post.here a1.rel q1
theorem mw_or {rest : List Expr} {m n : M Bool} (h : MT T X W0 a m) (h2 : MW T X W0 (.BoolOp .Or (b :: rest) pos) n) : MW T X W0 (.BoolOp .Or (a :: b :: rest) pos) (mOr m n) := by
  obtain ⟨t, p, h⟩ := h.ex
  obtain ⟨t2, p2, h2⟩ := h2.ex
  refine ⟨_, pw_or p p2, fun σ W H s Q rl q => h σ W H s _ rl ((Post.bind q).imp fun x s1 W1 H1 a1 q1 => ?_)⟩
  cases x with
  | true =>
    rw [if_pos rfl] at q1 ⊢
    exact Post.here a1.rel q1
  | false =>
    rw [if_neg Bool.false_ne_true] at q1 ⊢
    exact h2 σ W1 H1 s1 Q a1.rel q1
/-! .. as values -/
def mAndV (a b : M D) : M D := fun s => (a s).bind fun x s => match x with
  | .bl c => if c = true then b s else .ok (.bl false) s
  | _ => .bad
def mOrV (a b : M D) : M D := fun s => (a s).bind fun x s => match x with
  | .bl c => if c = true then .ok (.bl true) s else b s
  | _ => .bad
def mNotV (a : M D) : M D := fun s => (a s).bind fun x s => match x with
  | .bl c => .ok (.bl !c) s
  | _ => .bad
theorem md_one {op} {m : M D} (h : MD T X W0 a m) : MD T X W0 (.BoolOp op [a] pos) m := by
  obtain ⟨t, p, h⟩ := h.ex
  exact ⟨t, pe_one p, h⟩
theorem md_and {rest : List Expr} {m n : M D} (h : MD T X W0 a m) (h2 : MD T X W0 (.BoolOp .And (b :: rest) pos) n) : MD T X W0 (.BoolOp .And (a :: b :: rest) pos) (mAndV m n) := by
  obtain ⟨t, p, h⟩ := h.ex
  obtain ⟨t2, p2, h2⟩ := h2.ex
  refine ⟨_, pe_and p p2, fun σ W H s Q rl q => h σ W H s _ rl ((Post.bind q).imp fun x s1 W1 H1 a1 q1 v hv => ?_)⟩
  cases x with
  | bl c =>
    cases hv
    refine ⟨c, rfl, ?_⟩
    cases c with
    | true =>
      simp only [if_true] at q1 ⊢
      exact h2 σ W1 H1 s1 Q a1.rel q1
    | false =>
      simp only [if_neg Bool.false_ne_true] at q1 ⊢
      exact Post.here a1.rel q1 _ (.bl _)
  | _ => exact q1.elim
theorem md_or {rest : List Expr} {m n : M D} (h : MD T X W0 a m) (h2 : MD T X W0 (.BoolOp .Or (b :: rest) pos) n) : MD T X W0 (.BoolOp .Or (a :: b :: rest) pos) (mOrV m n) := by
  obtain ⟨t, p, h⟩ := h.ex
  obtain ⟨t2, p2, h2⟩ := h2.ex
  refine ⟨_, pe_or p p2, fun σ W H s Q rl q => h σ W H s _ rl ((Post.bind q).imp fun x s1 W1 H1 a1 q1 v hv => ?_)⟩
  cases x with
  | bl c =>
    cases hv
    refine ⟨c, rfl, ?_⟩
    cases c with
    | true =>
      simp only [if_true] at q1 ⊢
      exact Post.here a1.rel q1 _ (.bl _)
    | false =>
      simp only [if_neg Bool.false_ne_true] at q1 ⊢
      exact h2 σ W1 H1 s1 Q a1.rel q1
  | _ => exact q1.elim
theorem md_not {m : M D} (h : MD T X W0 a m) : MD T X W0 (.UnaryOp .Not a pos) (mNotV m) := by
  obtain ⟨t, p, h⟩ := h.ex
  refine ⟨_, pe_not p, fun σ W H s Q rl q => h σ W H s _ rl ((Post.bind q).imp fun x s1 W1 H1 a1 q1 v hv => ?_)⟩
  cases x with
  | bl c =>
    cases hv
    exact ⟨c, rfl, Post.here a1.rel q1 _ (.bl _)⟩
  | _ => exact q1.elim
def mIf {α : Type} (c : M Bool) (a b : M α) : M α := fun s => (c s).bind fun x s => if x = true then a s else b s
theorem md_if {m : M Bool} {n o : M D} (h : MT T X W0 c m) (ha : MD T X W0 a n) (hb : MD T X W0 b o) : MD T X W0 (.IfExp c a b pos) (mIf m n o) := by
  obtain ⟨t, p, h⟩ := h.ex
  obtain ⟨ta, pa, ha⟩ := ha.ex
  obtain ⟨tb, pb, hb⟩ := hb.ex
  refine ⟨_, pe_ifExp p pa pb, fun σ W H s Q rl q => h σ W H s _ rl ((Post.bind q).imp fun x s1 W1 H1 a1 q1 => ?_)⟩
  cases x with
  | true =>
    simp only [if_true] at q1 ⊢
    exact ha σ W1 H1 s1 Q a1.rel q1
  | false =>
    simp only [if_neg Bool.false_ne_true] at q1 ⊢
    exact hb σ W1 H1 s1 Q a1.rel q1
end
end Mv

set_option Elab.async false
set_option linter.all false
set_option maxRecDepth 100000
set_option maxHeartbeats 2000000
/-! Mv5: subscripts and slices, displays, argument lists, calls of built-ins. -/
namespace Mv
open PySem PySem.Spec PyProof.Rows L2

/-! ### subscripts -/
theorem atI_reps {G : En} {W : Hp} {vs : List V} {ds : List D} {i : Int} {d : D} (r : Reps G W vs ds) (e : atI ds i = some d) : ∃ v, atI vs i = some v ∧ Rep G W v d := by
  unfold atI at e ⊢
  rw [r.length]
  cases q : ixN ds.length i with
  | none => rw [q] at e; cases e
  | some j =>
    rw [q] at e
    exact r.get e
def oIx : D → D → Option D
  | .lst xs, .int i => atI xs i
  | .tup xs, .int i => atI xs i
  | .rls xs, .int i => atI xs i
  | .rtp xs, .int i => atI xs i
  | .str z, .int i => if z.length ≤ sizeLine then (atI z.cps.toList i).map (fun c => .str ⟨#[c]⟩) else none
  | _, _ => none
theorem opd_ix {G : En} : OpD G (rIx G.K) oIx := fun W H x y d e z Q hs hx hy hz q => by
  have L : ∀ xs i, d.seqL = some xs → e = .int i → atI xs i = some z → rIx G.K x y H Q := fun xs i h1 h2 h3 => by
    subst h2
    have e2 := hy.int
    subst e2
    obtain ⟨a, vs, rfl, h4, h5⟩ := hx.seqL hs h1
    obtain ⟨v, h6, h7⟩ := atI_reps h5 h3
    exact .inl ⟨a, vs, i, v, rfl, rfl, h4, h6, q.here hs h7⟩
  have T : ∀ xs i, d.seqT = some xs → e = .int i → atI xs i = some z → rIx G.K x y H Q := fun xs i h1 h2 h3 => by
    subst h2
    have e2 := hy.int
    subst e2
    obtain ⟨a, vs, rfl, h4, h5⟩ := hx.seqT hs h1
    obtain ⟨v, h6, h7⟩ := atI_reps h5 h3
    exact .inr (.inl ⟨a, vs, i, v, rfl, rfl, h4, h6, q.here hs h7⟩)
  unfold oIx at hz
  split at hz
  · exact L _ _ rfl rfl hz
  · exact T _ _ rfl rfl hz
  · exact L _ _ rfl rfl hz
  · exact T _ _ rfl rfl hz
  · split at hz
    · rename_i hl
      simp only [Option.map_eq_some_iff] at hz
      obtain ⟨c, hc, rfl⟩ := hz
      have e1 := hx.str; have e2 := hy.int
      subst e1; subst e2
      exact .inr (.inr ⟨_, _, c, rfl, rfl, hl, hc, q.here hs (.str _)⟩)
    · cases hz
  · cases hz
section
variable {T : List (Addr × Str)} {X : Cx} {W0 : WX} {a b c e : Expr} {pos : Pos}
theorem md_ix {ma mb : M Pl} (ha : MP T X W0 a ma) (hb : MP T X W0 b mb) (hs : PlainIx b := by exact fun _ _ => rfl) : MD T X W0 (.Subscript a b pos) (m2 oIx ma mb) := md_two opd_ix (fun _ _ p q => pe_ix ix_seq p q hs) ha hb

/-! ### slices -/
structure MN (T : List (Addr × Str)) (X : Cx) (W0 : WX) (e : Option Expr) (m : M (Option Int)) : Prop where
  ex : ∃ t : TO, PO X e t ∧ ∀ σ W H s Q, RelS (X.G T) W H σ s → Post (X.G T) W0 s σ W H (m s) (fun i _ _ H' => Q i H') → t σ H Q
def mNo : M (Option Int) := fun s => .ok none s
def mSome (m : M D) : M (Option Int) := fun s => (m s).bind fun d s => match d with
  | .int i => .ok (some i) s
  | _ => .bad
theorem mn_no : MN T X W0 none mNo := ⟨_, po_none, fun σ W H s Q r q => Post.here r q⟩
theorem mn_some {m : M D} (h : MD T X W0 e m) : MN T X W0 (some e) (mSome m) := by
  obtain ⟨t, p, h⟩ := h.ex
  refine ⟨_, po_some p, fun σ W H s Q rl q => h σ W H s _ rl ((Post.bind q).imp fun x s1 W1 H1 a1 q1 v hv => ?_)⟩
  cases x with
  | int i =>
    cases hv
    exact ⟨i, rfl, Post.here a1.rel q1⟩
  | _ => exact q1.elim
def cut {α : Type} (xs : List α) (lo hi : Option Int) : List α := (xs.drop (HT.sIx xs.length 0 lo)).take (HT.sIx xs.length xs.length hi - HT.sIx xs.length 0 lo)
theorem reps_cut {G : En} {W : Hp} {vs : List V} {ds : List D} (r : Reps G W vs ds) (lo hi : Option Int) : Reps G W (cutV vs lo hi) (cut ds lo hi) := by
  unfold cutV cut
  rw [r.length]
  exact (r.drop _).take _
theorem cut_all {α : Type} {xs : List α} {lo hi : Option Int} (h : HT.sIx xs.length 0 lo = 0 ∧ HT.sIx xs.length xs.length hi = xs.length) : cut xs lo hi = xs := by
  unfold cut
  rw [h.1, h.2]
  simp
def oSlL : D → Option Int → Option Int → Option MO
  | .lst xs, lo, hi => some (.lst (cut xs lo hi))
  | .rls xs, lo, hi => some (.lst (cut xs lo hi))
  | _, _, _ => none
def oSl : D → Option Int → Option Int → Option D
  | .lst xs, lo, hi => some (.lst (cut xs lo hi))
  | .rls xs, lo, hi => some (.lst (cut xs lo hi))
  | .tup xs, lo, hi => some (.tup (cut xs lo hi))
  | .str z, lo, hi => if z.length ≤ sizeLine then some (.str (cutS z lo hi)) else none
  | _, _, _ => none
def mSl (f : D → Option Int → Option Int → Option D) (a : M Pl) (l h : M (Option Int)) : M D := fun s => (a s).bind fun x s => (l s).bind fun i s => (h s).bind fun j s => match x.get s with
  | some d => match f d i j with
    | some z => .ok z s
    | none => .bad
  | none => .bad
def mSlF (a : M Pl) (l h : M (Option Int)) : M MO := fun s => (a s).bind fun x s => (l s).bind fun i s => (h s).bind fun j s => match x.get s with
  | some d => match oSlL d i j with
    | some z => .ok z s
    | none => .bad
  | none => .bad
def rSlAll (K : PySem.W.Frag) : V → Option Int → Option Int → Hp → VK → Prop := fun x lo hi H Q => rSlL K x lo hi H Q ∨ rSlA K x lo hi H Q ∨ rSlS x lo hi H Q
theorem slr_all : SlR X (rSlAll X.K) := sl_list.or (sl_tupA.or sl_str)
theorem slf {G : En} {W H : Hp} {x : V} {d : D} {z : MO} {lo hi : Option Int} {Q : VK} (hs : Same W H) (hx : RepR G W H x d) (hz : oSlL d lo hi = some z) (q : AnsF G W H Q z) : rSlAll G.K x lo hi H Q := by
  have L : ∀ xs, d.seqL = some xs → z = .lst (cut xs lo hi) → rSlAll G.K x lo hi H Q := fun xs h1 h2 => by
    obtain ⟨a, vs, rfl, h4, h5⟩ := hx.seqL hs h1
    subst h2
    exact .inl ⟨a, vs, rfl, h4, fun p hp => q p _ hp (.lst (reps_cut h5 lo hi))⟩
  unfold oSlL at hz
  split at hz
  · cases hz; exact L _ rfl rfl
  · cases hz; exact L _ rfl rfl
  · cases hz
theorem sld {G : En} {W H : Hp} {x : V} {d z : D} {lo hi : Option Int} {Q : VK} (hs : Same W H) (hx : RepR G W H x d) (hz : oSl d lo hi = some z) (q : Ans G W H Q z) : rSlAll G.K x lo hi H Q := by
  unfold oSl at hz
  split at hz
  · cases hz; exact slf (z := .lst _) hs hx rfl (q.f hs)
  · cases hz; exact slf (z := .lst _) hs hx rfl (q.f hs)
  · cases hz
    obtain ⟨a, vs, rfl, h1, r1, p1⟩ := hx.tup hs
    refine .inr (.inl ⟨a, vs, rfl, SqT.of (hs _ _ h1), fun c => ?_, fun _ p hp => ?_⟩)
    · rw [r1.length] at c
      rw [cut_all c] at q
      exact q.here hs p1
    · exact q.tup hs (reps_cut r1 lo hi) hp
  · split at hz
    · rename_i hl
      cases hz
      have e1 := hx.str
      subst e1
      exact .inr (.inr ⟨_, rfl, hl, q.here hs (.str _)⟩)
    · cases hz
  · cases hz
theorem md_slice {lo hi : Option Expr} {p2 : Pos} {ma : M Pl} {ml mh : M (Option Int)} (ha : MP T X W0 e ma) (hl : MN T X W0 lo ml) (hh : MN T X W0 hi mh) : MD T X W0 (.Subscript e (.Slice lo hi none p2) pos) (mSl oSl ma ml mh) := by
  obtain ⟨ta, pa, ha⟩ := ha.ex
  obtain ⟨tl, pl, hl⟩ := hl.ex
  obtain ⟨th, ph, hh⟩ := hh.ex
  refine ⟨_, pe_slice slr_all pa pl ph, fun σ W H s Q r q => ha σ W H s _ r ((Post.bind q).imp fun x s1 W1 H1 a1 q1 v hv => hl σ W1 H1 s1 _ a1.rel ((Post.bind q1).imp fun i s2 W2 H2 a2 q2 =>
    hh σ W2 H2 s2 _ a2.rel ((Post.bind q2).imp fun j s3 W3 H3 a3 q3 => ?_)))⟩
  have hv3 := (hv.mono a2.stp.data).mono a3.stp.data
  cases e1 : x.get s3 with
  | none => simp only [e1] at q3; exact q3.elim
  | some d =>
    simp only [e1] at q3
    cases e3 : oSl d i j with
    | none => simp only [e3] at q3; exact q3.elim
    | some z =>
      simp only [e3] at q3
      exact sld a3.rel.sub (hv3.readR a3.rel e1) e3 fun u W' H' st hs hu => q3 W' H' (a3.rel.stp0 st hs) u hu
theorem mf_slice {lo hi : Option Expr} {p2 : Pos} {ma : M Pl} {ml mh : M (Option Int)} (ha : MP T X W0 e ma) (hl : MN T X W0 lo ml) (hh : MN T X W0 hi mh) : MF T X W0 (.Subscript e (.Slice lo hi none p2) pos) (mSlF ma ml mh) := by
  obtain ⟨ta, pa, ha⟩ := ha.ex
  obtain ⟨tl, pl, hl⟩ := hl.ex
  obtain ⟨th, ph, hh⟩ := hh.ex
  refine ⟨_, pe_slice slr_all pa pl ph, fun σ W H s Q r q => ha σ W H s _ r ((Post.bind q).imp fun x s1 W1 H1 a1 q1 v hv => hl σ W1 H1 s1 _ a1.rel ((Post.bind q1).imp fun i s2 W2 H2 a2 q2 =>
    hh σ W2 H2 s2 _ a2.rel ((Post.bind q2).imp fun j s3 W3 H3 a3 q3 => ?_)))⟩
  have hv3 := (hv.mono a2.stp.data).mono a3.stp.data
  cases e1 : x.get s3 with
  | none => simp only [e1] at q3; exact q3.elim
  | some d =>
    simp only [e1] at q3
    cases e3 : oSlL d i j with
    | none => simp only [e3] at q3; exact q3.elim
    | some z =>
      simp only [e3] at q3
      exact slf a3.rel.sub (hv3.readR a3.rel e1) e3 fun p u hp hu => q3 W3 (upd H3 p u) (.newO a3.rel hp) p u (((a1.trans a2).trans a3).stp.back hp) upd_same (a3.rel.sub.free hp) hu
/-- xs[::-1] of a list -/
def mRev (a : M Pl) : M MO := fun s => (a s).bind fun x s => match x.get s with
  | some d => match d.seqL with
    | some xs => .ok (.lst xs.reverse) s
    | none => .bad
  | none => .bad
theorem mf_rev {k : Nat} {p1 p2 p3 : Pos} {ma : M Pl} (ha : MP T X W0 e ma) : MF T X W0 (.Subscript e (.Slice none none (some (.UnaryOp .USub (.Constant (.int 1) k p1) p2)) p3) pos) (mRev ma) := by
  obtain ⟨ta, pa, ha⟩ := ha.ex
  refine ⟨_, pe_revL pa, fun σ W H s Q r q => ha σ W H s _ r ((Post.bind q).imp fun x s1 W1 H1 a1 q1 v hv => ?_)⟩
  cases e1 : x.get s1 with
  | none => simp only [e1] at q1; exact q1.elim
  | some d =>
    simp only [e1] at q1
    cases e3 : d.seqL with
    | none => simp only [e3] at q1; exact q1.elim
    | some xs =>
      simp only [e3] at q1
      obtain ⟨a, vs, rfl, h4, h5⟩ := (hv.readR a1.rel e1).seqL a1.rel.sub e3
      exact ⟨a, vs, rfl, h4, fun p hp => q1 W1 (upd H1 p _) (.newO a1.rel hp) p _ (a1.stp.back hp) upd_same (a1.rel.sub.free hp) (.lst h5.reverse)⟩

/-! ### displays -/
/-- expressions' data, from the left -/
structure MA (T : List (Addr × Str)) (X : Cx) (W0 : WX) (es : List Expr) (m : M (List D)) : Prop where
  ex : ∃ t : TA, PA X es t ∧ ∀ σ W H s Q, RelS (X.G T) W H σ s → Post (X.G T) W0 s σ W H (m s) (fun ds _ W' H' => ∀ vs, Reps (X.G T) W' vs ds → Q vs H') → t σ H Q
  len : ∀ s ds s', m s = .ok ds s' → ds.length = es.length
def mNil {α : Type} : M (List α) := fun s => .ok [] s
def mCons {α : Type} (a : M α) (r : M (List α)) : M (List α) := fun s => (a s).bind fun x s => (r s).bind fun xs s => .ok (x :: xs) s
theorem ma_nil : MA T X W0 [] mNil := ⟨⟨_, pa_nil, fun σ W H s Q r q => Post.here r q _ .nil⟩, fun s ds s' h => by cases h; rfl⟩
theorem bind_len {α β : Type} {a : M α} {f : α → S → R β} {s s' : S} {b : β} (h : (a s).bind f = .ok b s') : ∃ x s1, a s = .ok x s1 ∧ f x s1 = .ok b s' := by
  cases e : a s with
  | ok x s1 => rw [e] at h; exact ⟨x, s1, rfl, h⟩
  | ex c d s1 => rw [e] at h; cases h
  | bad => rw [e] at h; cases h
theorem ma_cons {es : List Expr} {m : M D} {n : M (List D)} (h : MD T X W0 e m) (h2 : MA T X W0 es n) (hs : starEach (e :: es) X.env = (false, eval e X.env) :: starEach es X.env := by rfl) : MA T X W0 (e :: es) (mCons m n) := by
  obtain ⟨t, p, h⟩ := h.ex
  obtain ⟨⟨t2, p2, h2⟩, hl⟩ := h2
  refine ⟨⟨_, pa_cons p p2 hs, fun σ W H s Q r q => h σ W H s _ r ((Post.bind q).imp fun x s1 W1 H1 a1 q1 v hv => h2 σ W1 H1 s1 _ a1.rel ((Post.bind q1).imp fun xs s2 W2 H2 a2 q2 vs hvs => Post.here a2.rel q2 _ (.cons (a2.rep hv) hvs)))⟩, fun s ds s' z => ?_⟩
  obtain ⟨x, s1, e1, z⟩ := bind_len z
  obtain ⟨xs, s2, e2, z⟩ := bind_len z
  cases z
  rw [List.length_cons, List.length_cons, hl _ _ _ e2]
def mTup (m : M (List D)) : M D := fun s => (m s).bind fun ds s => .ok (.tup ds) s
def mLst (m : M (List D)) : M MO := fun s => (m s).bind fun ds s => .ok (.lst ds) s
theorem md_tup {es : List Expr} {k : Nat} {m : M (List D)} (h : MA T X W0 es m) (hl : es.length ≤ sizeLine := by decide) : MD T X W0 (.Tuple es k pos) (mTup m) := by
  obtain ⟨⟨t, p, h⟩, hn⟩ := h
  refine ⟨_, pe_tup p, fun σ W H s Q r q => h σ W H s _ r ?_⟩
  have q : Post (X.G T) W0 s σ W H ((m s).bind _) (KD (X.G T) Q) := q
  cases em : m s with
  | bad => rw [em] at q; exact q
  | ex c d s1 => rw [em] at q; exact q
  | ok ds s1 =>
    rw [em] at q
    intro W1 H1 a1 vs hvs
    refine ⟨by rw [hvs.length, hn _ _ _ em]; exact hl, fun p hp => ?_⟩
    exact q (upd W1 p (.tup vs)) (upd H1 p (.tup vs)) (a1.trans (.new a1.rel hp)) _ (.tup upd_same (hvs.mono fun b o e => by rw [upd_ne (ne_of_none (a1.rel.sub b o e) hp)]; exact e))
theorem mf_lst {es : List Expr} {m : M (List D)} (h : MA T X W0 es m) (hl : es.length ≤ sizeLine := by decide) : MF T X W0 (.List es pos) (mLst m) := by
  obtain ⟨⟨t, p, h⟩, hn⟩ := h
  refine ⟨_, pe_lst p, fun σ W H s Q r q => h σ W H s _ r ?_⟩
  have q : Post (X.G T) W0 s σ W H ((m s).bind _) (KF (X.G T) H Q) := q
  cases em : m s with
  | bad => rw [em] at q; exact q
  | ex c d s1 => rw [em] at q; exact q
  | ok ds s1 =>
    rw [em] at q
    intro W1 H1 a1 vs hvs
    refine ⟨by rw [hvs.length, hn _ _ _ em]; exact hl, fun p hp => ?_⟩
    exact q W1 (upd H1 p (.lst vs)) (a1.trans (.newO a1.rel hp)) p _ (a1.stp.back hp) upd_same (a1.rel.sub.free hp) (.lst hvs)

/-! ### argument lists -/
inductive PlsOk (G : En) (W : Hp) (σ : L2.St) : List V → List Pl → Prop
  | nil : PlsOk G W σ [] []
  | cons {v : V} {vs : List V} {p : Pl} {ps : List Pl} : PlOk G W σ v p → PlsOk G W σ vs ps → PlsOk G W σ (v :: vs) (p :: ps)
theorem PlsOk.mono {G : En} {W W' : Hp} {σ : L2.St} (e : Same W W') : ∀ {vs : List V} {ps : List Pl}, PlsOk G W σ vs ps → PlsOk G W' σ vs ps
  | _, _, .nil => .nil
  | _, _, .cons h r => .cons (h.mono e) (PlsOk.mono e r)
structure MAp (T : List (Addr × Str)) (X : Cx) (W0 : WX) (es : List Expr) (m : M (List Pl)) : Prop where
  ex : ∃ t : TA, PA X es t ∧ ∀ σ W H s Q, RelS (X.G T) W H σ s → Post (X.G T) W0 s σ W H (m s) (fun ds _ W' H' => ∀ vs, PlsOk (X.G T) W' σ vs ds → Q vs H') → t σ H Q
theorem mp_nil : MAp T X W0 [] mNil := ⟨⟨_, pa_nil, fun σ W H s Q r q => Post.here r q _ .nil⟩⟩
theorem mp_cons {es : List Expr} {m : M Pl} {n : M (List Pl)} (h : MP T X W0 e m) (h2 : MAp T X W0 es n) (hs : starEach (e :: es) X.env = (false, eval e X.env) :: starEach es X.env := by rfl) : MAp T X W0 (e :: es) (mCons m n) := by
  obtain ⟨t, p, h⟩ := h.ex
  obtain ⟨⟨t2, p2, h2⟩⟩ := h2
  exact ⟨⟨_, pa_cons p p2 hs, fun σ W H s Q r q => h σ W H s _ r ((Post.bind q).imp fun x s1 W1 H1 a1 q1 v hv => h2 σ W1 H1 s1 _ a1.rel ((Post.bind q1).imp fun xs s2 W2 H2 a2 q2 vs hvs => Post.here a2.rel q2 _ (.cons (hv.mono a2.stp.data) hvs)))⟩⟩
def gets (s : S) : List Pl → Option (List D)
  | [] => some []
  | p :: ps => match p.get s, gets s ps with
    | some d, some ds => some (d :: ds)
    | _, _ => none
inductive RepRs (G : En) (W H : Hp) : List V → List D → Prop
  | nil : RepRs G W H [] []
  | cons {v : V} {vs : List V} {d : D} {ds : List D} : RepR G W H v d → RepRs G W H vs ds → RepRs G W H (v :: vs) (d :: ds)
theorem PlsOk.reads {G : En} {W H : Hp} {σ : L2.St} {s : S} (r : RelS G W H σ s) : ∀ {vs : List V} {ps : List Pl} {ds : List D}, PlsOk G W σ vs ps → gets s ps = some ds → RepRs G W H vs ds
  | _, _, _, .nil, e => by cases e; exact .nil
  | _, _, _, .cons (p := p) (ps := ps) h t, e => by
    simp only [gets] at e
    cases e1 : p.get s with
    | none => rw [e1] at e; cases e
    | some d =>
      cases e2 : gets s ps with
      | none => rw [e1, e2] at e; cases e
      | some ds =>
        rw [e1, e2] at e
        cases e
        exact .cons (h.readR r e1) (PlsOk.reads r t e2)

/-! ### calls of built-ins -/
def CallD (G : En) (r : List V → Hp → VK → Prop) (f : List D → Option D) : Prop :=
  ∀ (W H : Hp) (vs : List V) (ds : List D) (z : D) (Q : VK), Same W H → RepRs G W H vs ds → f ds = some z → Ans G W H Q z → r vs H Q
def CallF (G : En) (r : List V → Hp → VK → Prop) (f : List D → Option MO) : Prop :=
  ∀ (W H : Hp) (vs : List V) (ds : List D) (z : MO) (Q : VK), Same W H → RepRs G W H vs ds → f ds = some z → AnsF G W H Q z → r vs H Q
theorem CallF.d {G : En} {r : List V → Hp → VK → Prop} {f : List D → Option MO} (h : CallF G r f) : CallD G r (fun x => (f x).map MO.d) := fun W H x d z Q hs hx hz q => by
  simp only [Option.map_eq_some_iff] at hz
  obtain ⟨o, ho, rfl⟩ := hz
  exact h W H x d o Q hs hx ho (q.f hs)
def mCall {α : Type} (f : List D → Option α) (m : M (List Pl)) : M α := fun s => (m s).bind fun ps s => match gets s ps with
  | some ds => match f ds with
    | some z => .ok z s
    | none => .bad
  | none => .bad
theorem md_call {es : List Expr} {m : M (List Pl)} {r : List V → Hp → VK → Prop} {f : List D → Option D} (hf : CallD (X.G T) r f) (h : MAp T X W0 es m) (mk : ∀ t, PA X es t → PE X e (tCB r t)) : MD T X W0 e (mCall f m) := by
  obtain ⟨t, p, h⟩ := h.ex
  refine ⟨_, mk t p, fun σ W H s Q rl q => h σ W H s _ rl ((Post.bind q).imp fun ps s1 W1 H1 a1 q1 vs hvs => ?_)⟩
  cases e1 : gets s1 ps with
  | none => simp only [e1] at q1; exact q1.elim
  | some ds =>
    simp only [e1] at q1
    cases e2 : f ds with
    | none => simp only [e2] at q1; exact q1.elim
    | some z =>
      simp only [e2] at q1
      exact hf W1 H1 vs ds z Q a1.rel.sub (hvs.reads a1.rel e1) e2 fun u W' H' st hs hu => q1 W' H' (a1.rel.stp0 st hs) u hu
theorem mf_call {es : List Expr} {m : M (List Pl)} {r : List V → Hp → VK → Prop} {f : List D → Option MO} (hf : CallF (X.G T) r f) (h : MAp T X W0 es m) (mk : ∀ t, PA X es t → PE X e (tCB r t)) : MF T X W0 e (mCall f m) := by
  obtain ⟨t, p, h⟩ := h.ex
  refine ⟨_, mk t p, fun σ W H s Q rl q => h σ W H s _ rl ((Post.bind q).imp fun ps s1 W1 H1 a1 q1 vs hvs => ?_)⟩
  cases e1 : gets s1 ps with
  | none => simp only [e1] at q1; exact q1.elim
  | some ds =>
    simp only [e1] at q1
    cases e2 : f ds with
    | none => simp only [e2] at q1; exact q1.elim
    | some z =>
      simp only [e2] at q1
      exact hf W1 H1 vs ds z Q a1.rel.sub (hvs.reads a1.rel e1) e2 fun p u hp hu => q1 W1 (upd H1 p u) (.newO a1.rel hp) p u (a1.stp.back hp) upd_same (a1.rel.sub.free hp) hu
end
end Mv

set_option Elab.async false
set_option linter.all false
set_option maxRecDepth 100000
set_option maxHeartbeats 2000000
/-! Mv6: the built-ins one by one; a def called by what it makes of data. -/
namespace Mv
open PySem PySem.Spec PyProof.Rows L2

/-! ### len, int, abs, min, max, list, tuple, all, any, sum -/
section
variable {G : En} {W H : Hp} {v w' : V} {vs : List V} {d : D} {ds : List D}
theorem RepRs.one {d : D} (h : RepRs G W H vs [d]) : ∃ v, vs = [v] ∧ RepR G W H v d := by
  cases h with
  | cons h r => cases r; exact ⟨_, rfl, h⟩
theorem RepRs.two {d e : D} (h : RepRs G W H vs [d, e]) : ∃ v w, vs = [v, w] ∧ RepR G W H v d ∧ RepR G W H w e := by
  cases h with
  | cons h r => obtain ⟨w, rfl, h2⟩ := r.one; exact ⟨_, _, rfl, h, h2⟩
end
def D.len : D → Option Nat
  | .lst xs => some xs.length
  | .rls xs => some xs.length
  | .tup xs => some xs.length
  | .rtp xs => some xs.length
  | .str x => if x.length ≤ sizeLine then some x.length else none
  | _ => none
def fLen : List D → Option D
  | [d] => d.len.map fun n : Nat => .int n
  | _ => none
def rLen (K : PySem.W.Frag) : List V → Hp → VK → Prop := fun xs H Q => ∃ x n, xs = [x] ∧ LenV K x H n ∧ Q (.int n) H
theorem cd_len {G : En} : CallD G (rLen G.K) fLen := fun W H vs ds z Q hs hx hz q => by
  unfold fLen at hz
  split at hz
  · rename_i d
    obtain ⟨v, rfl, h⟩ := hx.one
    simp only [Option.map_eq_some_iff] at hz
    obtain ⟨n, hn, rfl⟩ := hz
    refine ⟨v, n, rfl, ?_, q.here hs (.int _)⟩
    cases d with
    | lst xs => cases hn; obtain ⟨a, ws, rfl, h1, h2⟩ := h.seqL hs rfl; exact .inl ⟨ws, h1, h2.length.symm⟩
    | rls xs => cases hn; obtain ⟨a, ws, rfl, h1, h2⟩ := h.seqL hs rfl; exact .inl ⟨ws, h1, h2.length.symm⟩
    | tup xs => cases hn; obtain ⟨a, ws, rfl, h1, h2⟩ := h.seqT hs rfl; exact .inr ⟨ws, h1, h2.length.symm⟩
    | rtp xs => cases hn; obtain ⟨a, ws, rfl, h1, h2⟩ := h.seqT hs rfl; exact .inr ⟨ws, h1, h2.length.symm⟩
    | str x =>
      simp only [D.len] at hn
      split at hn
      · rename_i c; cases hn; rw [h.str]; exact ⟨c, rfl⟩
      · cases hn
    | _ => cases hn
  · cases hz
def fInt : List D → Option D
  | [.int i] => some (.int i)
  | [.bl b] => some (.int (if b then 1 else 0))
  | _ => none
def rInt : List V → Hp → VK → Prop := fun xs H Q => (∃ i, xs = [.int i] ∧ Q (.int i) H) ∨ ∃ k, xs = [.bl k] ∧ Q (.int (if k then 1 else 0)) H
theorem cd_int {G : En} : CallD G rInt fInt := fun W H vs ds z Q hs hx hz q => by
  unfold fInt at hz
  split at hz
  · cases hz
    obtain ⟨v, rfl, h⟩ := hx.one
    rw [h.int]
    exact .inl ⟨_, rfl, q.here hs (.int _)⟩
  · cases hz
    obtain ⟨v, rfl, h⟩ := hx.one
    rw [h.bl]
    exact .inr ⟨_, rfl, q.here hs (.int _)⟩
  · cases hz
def fAbs : List D → Option D
  | [.int i] => some (.int (if i < 0 then -i else i))
  | _ => none
def rAbs : List V → Hp → VK → Prop := fun xs H Q => ∃ i, xs = [.int i] ∧ Q (.int (if i < 0 then -i else i)) H
theorem cd_abs {G : En} : CallD G rAbs fAbs := fun W H vs ds z Q hs hx hz q => by
  unfold fAbs at hz
  split at hz
  · cases hz
    obtain ⟨v, rfl, h⟩ := hx.one
    rw [h.int]
    exact ⟨_, rfl, q.here hs (.int _)⟩
  · cases hz
def fMax2 : List D → Option D
  | [.int i, .int j] => some (.int (if j > i then j else i))
  | _ => none
def rMax2 : List V → Hp → VK → Prop := fun xs H Q => ∃ i j, xs = [.int i, .int j] ∧ Q (.int (if j > i then j else i)) H
theorem cd_max2 {G : En} : CallD G rMax2 fMax2 := fun W H vs ds z Q hs hx hz q => by
  unfold fMax2 at hz
  split at hz
  · cases hz
    obtain ⟨v, u, rfl, h, h2⟩ := hx.two
    rw [h.int, h2.int]
    exact ⟨_, _, rfl, q.here hs (.int _)⟩
  · cases hz
def fMin2 : List D → Option D
  | [.int i, .int j] => some (.int (if j < i then j else i))
  | _ => none
def rMin2 : List V → Hp → VK → Prop := fun xs H Q => ∃ i j, xs = [.int i, .int j] ∧ Q (.int (if j < i then j else i)) H
theorem cd_min2 {G : En} : CallD G rMin2 fMin2 := fun W H vs ds z Q hs hx hz q => by
  unfold fMin2 at hz
  split at hz
  · cases hz
    obtain ⟨v, u, rfl, h, h2⟩ := hx.two
    rw [h.int, h2.int]
    exact ⟨_, _, rfl, q.here hs (.int _)⟩
  · cases hz
/-- list(x) of a list, a tuple -/
def D.items : D → Option (List D)
  | .lst xs => some xs | .rls xs => some xs | .tup xs => some xs | .rtp xs => some xs | _ => none
theorem RepR.items {G : En} {W H : Hp} {v : V} {d : D} {xs : List D} (hs : Same W H) (h : RepR G W H v d) (e : d.items = some xs) : ∃ a vs, v = .ref a ∧ (SqL G.K H a vs ∨ SqT G.K H a vs) ∧ Reps G W vs xs := by
  cases d with
  | lst ys => cases e; obtain ⟨a, vs, h1, h2, h3⟩ := h.seqL hs rfl; exact ⟨a, vs, h1, .inl h2, h3⟩
  | rls ys => cases e; obtain ⟨a, vs, h1, h2, h3⟩ := h.seqL hs rfl; exact ⟨a, vs, h1, .inl h2, h3⟩
  | tup ys => cases e; obtain ⟨a, vs, h1, h2, h3⟩ := h.seqT hs rfl; exact ⟨a, vs, h1, .inr h2, h3⟩
  | rtp ys => cases e; obtain ⟨a, vs, h1, h2, h3⟩ := h.seqT hs rfl; exact ⟨a, vs, h1, .inr h2, h3⟩
  | _ => cases e
def fList : List D → Option MO
  | [d] => d.items.map .lst
  | _ => none
def rList (K : PySem.W.Frag) : List V → Hp → VK → Prop := fun xs H Q => ∃ p ys, xs = [.ref p] ∧ (SqL K H p ys ∨ SqT K H p ys) ∧ ∀ l, H l = none → Q (.ref l) (upd H l (.lst ys))
theorem cf_list {G : En} : CallF G (rList G.K) fList := fun W H vs ds z Q hs hx hz q => by
  unfold fList at hz
  split at hz
  · obtain ⟨v, rfl, h⟩ := hx.one
    simp only [Option.map_eq_some_iff] at hz
    obtain ⟨xs, hn, rfl⟩ := hz
    obtain ⟨a, ws, rfl, h1, h2⟩ := h.items hs hn
    exact ⟨a, ws, rfl, h1, fun l hl => q l _ hl (.lst h2)⟩
  · cases hz
def fTuple : List D → Option D
  | [.lst xs] => some (.tup xs)
  | [.rls xs] => some (.tup xs)
  | [.tup xs] => some (.tup xs)
  | _ => none
def rTuple (K : PySem.W.Frag) : List V → Hp → VK → Prop := fun xs H Q => ∃ p ys, xs = [.ref p] ∧ ((SqL K H p ys ∧ ∀ l, H l = none → Q (.ref l) (upd H l (.tup ys))) ∨ (SqT K H p ys ∧ Q (.ref p) H))
theorem cd_tuple {G : En} : CallD G (rTuple G.K) fTuple := fun W H vs ds z Q hs hx hz q => by
  unfold fTuple at hz
  split at hz
  · cases hz
    obtain ⟨v, rfl, h⟩ := hx.one
    obtain ⟨a, ws, rfl, h1, h2⟩ := h.seqL hs rfl
    exact ⟨a, ws, rfl, .inl ⟨h1, fun l hl => q.tup hs h2 hl⟩⟩
  · cases hz
    obtain ⟨v, rfl, h⟩ := hx.one
    obtain ⟨a, ws, rfl, h1, h2⟩ := h.seqL hs rfl
    exact ⟨a, ws, rfl, .inl ⟨h1, fun l hl => q.tup hs h2 hl⟩⟩
  · cases hz
    obtain ⟨v, rfl, h⟩ := hx.one
    obtain ⟨a, ws, rfl, h1, h2, h3⟩ := h.tup hs
    exact ⟨a, ws, rfl, .inr ⟨SqT.of (hs _ _ h1), q.here hs h3⟩⟩
  · cases hz
def D.bools : List D → Option (List Bool)
  | [] => some []
  | .bl b :: r => (D.bools r).map (b :: ·)
  | _ => none
theorem reps_bools {G : En} {W : Hp} : ∀ {vs : List V} {ds : List D} {bs : List Bool}, Reps G W vs ds → D.bools ds = some bs → vs = bs.map V.bl
  | _, _, _, .nil, e => by cases e; rfl
  | _, _, _, .cons (d := d) h r, e => by
    cases d with
    | bl b =>
      simp only [D.bools, Option.map_eq_some_iff] at e
      obtain ⟨cs, e, rfl⟩ := e
      cases h
      rw [reps_bools r e]
      rfl
    | _ => cases e
def D.ints : List D → Option (List Int)
  | [] => some []
  | .int b :: r => (D.ints r).map (b :: ·)
  | _ => none
theorem reps_ints {G : En} {W : Hp} : ∀ {vs : List V} {ds : List D} {bs : List Int}, Reps G W vs ds → D.ints ds = some bs → vs = bs.map V.int
  | _, _, _, .nil, e => by cases e; rfl
  | _, _, _, .cons (d := d) h r, e => by
    cases d with
    | int b =>
      simp only [D.ints, Option.map_eq_some_iff] at e
      obtain ⟨cs, e, rfl⟩ := e
      cases h
      rw [reps_ints r e]
      rfl
    | _ => cases e
def onL {α : Type} (f : List D → Option α) (g : α → Option D) : List D → Option D
  | [d] => match d.seqL with
    | some xs => (f xs).bind g
    | none => none
  | _ => none
abbrev fAll := onL D.bools fun bs => some (.bl (bs.all id))
abbrev fAny := onL D.bools fun bs => some (.bl (bs.any id))
abbrev fSum := onL D.ints fun ns => some (.int ns.sum)
theorem onL_cases {α : Type} {f : List D → Option α} {g : α → Option D} {ds : List D} {z : D} {G : En} {W H : Hp} {vs : List V} (hs : Same W H) (hx : RepRs G W H vs ds) (h : onL f g ds = some z) : ∃ a ws xs b, vs = [.ref a] ∧ SqL G.K H a ws ∧ Reps G W ws xs ∧ f xs = some b ∧ g b = some z := by
  unfold onL at h
  split at h
  · rename_i d
    split at h
    · rename_i xs e
      obtain ⟨v, rfl, hv⟩ := hx.one
      obtain ⟨a, ws, rfl, h1, h2⟩ := hv.seqL hs e
      cases q : f xs with
      | none => rw [q] at h; cases h
      | some b => rw [q] at h; exact ⟨a, ws, xs, b, rfl, h1, h2, q, h⟩
    · cases h
  · cases h
theorem cd_all {G : En} : CallD G (rAll G.K) fAll := fun W H vs ds z Q hs hx hz q => by
  obtain ⟨a, ws, xs, b, rfl, h1, h2, h3, h4⟩ := onL_cases hs hx hz
  cases h4
  have e := reps_bools h2 h3
  subst e
  exact ⟨a, b, rfl, h1, q.here hs (.bl _)⟩
theorem cd_any {G : En} : CallD G (rAny G.K) fAny := fun W H vs ds z Q hs hx hz q => by
  obtain ⟨a, ws, xs, b, rfl, h1, h2, h3, h4⟩ := onL_cases hs hx hz
  cases h4
  have e := reps_bools h2 h3
  subst e
  exact ⟨a, b, rfl, h1, q.here hs (.bl _)⟩
theorem cd_sum {G : En} : CallD G (rSum G.K) fSum := fun W H vs ds z Q hs hx hz q => by
  obtain ⟨a, ws, xs, b, rfl, h1, h2, h3, h4⟩ := onL_cases hs hx hz
  cases h4
  have e := reps_ints h2 h3
  subst e
  exact ⟨a, b, rfl, h1, q.here hs (.int _)⟩
/-! isinstance -/
def D.ty : D → Option String
  | .non => some "NoneType" | .bl _ => some "bool" | .int _ => some "int" | .str _ => some "str" | .lst _ => some "list" | .tup _ => some "tuple" | .dic _ => some "dict" | _ => none
theorem ty_of {G : En} {W H : Hp} {v : V} {d : D} {n : String} (hs : Same W H) (h : RepR G W H v d) (e : d.ty = some n) : TyX G.K H v (.type n) := by
  refine .base ?_
  have h1 := h.rep hs
  clear h
  cases h1 with
  | non => cases e; exact .non
  | bl => cases e; exact .bl _
  | int => cases e; exact .int _
  | str => cases e; exact .str _
  | lst h => cases e; exact .lst h
  | tup h => cases e; exact .tup h
  | dK h => cases e; exact .dK h
  | dT h => cases e; exact .dT h
  | _ => cases e
def kitD (a b : String) : Option Bool := match b with
  | "bool" => some (a == "bool")
  | "int" => some (a == "bool" || a == "int")
  | "str" => some (a == "str")
  | "list" => some (a == "list")
  | "tuple" => some (a == "tuple")
  | "dict" => some (a == "dict")
  | _ => none
def fIsi : List D → Option D
  | [d, .raw (.ty b)] => d.ty.bind fun a => (kitD a b).map .bl
  | _ => none
theorem kitD_ok {d : D} {a b : String} {r : Bool} (h : d.ty = some a) (e : kitD a b = some r) : kitB a b = some r := by
  have ha : a = "NoneType" ∨ a = "bool" ∨ a = "int" ∨ a = "str" ∨ a = "list" ∨ a = "tuple" ∨ a = "dict" := by
    cases d <;> simp only [D.ty, Option.some.injEq] at h <;> first | (subst h; simp) | cases h
  unfold kitD at e
  split at e
  all_goals first
    | (cases e; done)
    | (cases e; rcases ha with rfl | rfl | rfl | rfl | rfl | rfl | rfl <;> decide +kernel)
theorem cd_isi {G : En} : CallD G (rIsi G.K) fIsi := fun W H vs ds z Q hs hx hz q => by
  unfold fIsi at hz
  split at hz
  · rename_i d b
    obtain ⟨v, u, rfl, h, h2⟩ := hx.two
    simp only [Option.bind_eq_some_iff, Option.map_eq_some_iff] at hz
    obtain ⟨a, ha, r, hr, rfl⟩ := hz
    have e2 : u = .ty b := by
      rcases h2 with h2 | ⟨p, u', o, _, _, hr2, e⟩
      · cases h2; rfl
      · cases hr2 <;> cases e
    subst e2
    exact ⟨v, .ty b, .type a, .type b, r, rfl, .ty b, ty_of hs h ha, kit_ty (kitD_ok ha hr), q.here hs (.bl _)⟩
  · cases hz
section
variable {T : List (Addr × Str)} {X : Cx} {W0 : WX} {a b c e : Expr} {es : List Expr} {pos p : Pos} {m : M (List Pl)}
variable (he : starEach (e :: es) X.env = (false, eval e X.env) :: starEach es X.env) (hpl : (backTo pos (starEach es X.env)).any (·.1) = false)
theorem md_bltn {x : Str} {v : V} {u : Value} (hg : Gl X x) (hm : X.mg x = none) (hv : bootBuiltins x = some u) (r : RelV v u) (hn : x ≠ "__name__" := by decide) (hd : (x == ("__debug__" : Str)) = false := by decide) : MD T X W0 (.Name x pos) (mC (.raw v)) :=
  ⟨_, pe_bltn hg hm hv r hn hd, fun σ W H s Q r q => Post.here r q _ (.raw v)⟩
theorem md_len (hg : Gl X "len") (hm : X.mg "len" = none) (h : MAp T X W0 (e :: es) m) (he : starEach (e :: es) X.env = (false, eval e X.env) :: starEach es X.env := by rfl) (hpl : (backTo pos (starEach es X.env)).any (·.1) = false := by rfl) :
    MD T X W0 (.Call (.Name "len" p) (e :: es) [] pos) (mCall fLen m) := md_call cd_len h fun _ q => pe_callB call_len hg hm PySem.boot_len q (he := he) (hpl := hpl)
theorem md_intc (hg : Gl X "int") (hm : X.mg "int" = none) (h : MAp T X W0 (e :: es) m) (he : starEach (e :: es) X.env = (false, eval e X.env) :: starEach es X.env := by rfl) (hpl : (backTo pos (starEach es X.env)).any (·.1) = false := by rfl) :
    MD T X W0 (.Call (.Name "int" p) (e :: es) [] pos) (mCall fInt m) := md_call cd_int h fun _ q => pe_callTy call_int1 hg hm (by decide +kernel) q (he := he) (hpl := hpl)
theorem md_abs (hg : Gl X "abs") (hm : X.mg "abs" = none) (h : MAp T X W0 (e :: es) m) (he : starEach (e :: es) X.env = (false, eval e X.env) :: starEach es X.env := by rfl) (hpl : (backTo pos (starEach es X.env)).any (·.1) = false := by rfl) :
    MD T X W0 (.Call (.Name "abs" p) (e :: es) [] pos) (mCall fAbs m) := md_call cd_abs h fun _ q => pe_callB call_abs hg hm (by decide +kernel) q (he := he) (hpl := hpl)
theorem md_max2 (hc : X.calm = true) (hg : Gl X "max") (hm : X.mg "max" = none) (h : MAp T X W0 (e :: es) m) (he : starEach (e :: es) X.env = (false, eval e X.env) :: starEach es X.env := by rfl) (hpl : (backTo pos (starEach es X.env)).any (·.1) = false := by rfl) :
    MD T X W0 (.Call (.Name "max" p) (e :: es) [] pos) (mCall fMax2 m) := md_call cd_max2 h fun _ q => pe_callB (call_max2 hc) hg hm (by decide +kernel) q (he := he) (hpl := hpl)
theorem md_min2 (hc : X.calm = true) (hg : Gl X "min") (hm : X.mg "min" = none) (h : MAp T X W0 (e :: es) m) (he : starEach (e :: es) X.env = (false, eval e X.env) :: starEach es X.env := by rfl) (hpl : (backTo pos (starEach es X.env)).any (·.1) = false := by rfl) :
    MD T X W0 (.Call (.Name "min" p) (e :: es) [] pos) (mCall fMin2 m) := md_call cd_min2 h fun _ q => pe_callB (call_min2 hc) hg hm (by decide +kernel) q (he := he) (hpl := hpl)
theorem mf_list (hg : Gl X "list") (hm : X.mg "list" = none) (h : MAp T X W0 (e :: es) m) (he : starEach (e :: es) X.env = (false, eval e X.env) :: starEach es X.env := by rfl) (hpl : (backTo pos (starEach es X.env)).any (·.1) = false := by rfl) :
    MF T X W0 (.Call (.Name "list" p) (e :: es) [] pos) (mCall fList m) := mf_call cf_list h fun _ q => pe_callTy call_list_of hg hm (by decide +kernel) q (he := he) (hpl := hpl)
theorem md_tuple (hg : Gl X "tuple") (hm : X.mg "tuple" = none) (h : MAp T X W0 (e :: es) m) (he : starEach (e :: es) X.env = (false, eval e X.env) :: starEach es X.env := by rfl) (hpl : (backTo pos (starEach es X.env)).any (·.1) = false := by rfl) :
    MD T X W0 (.Call (.Name "tuple" p) (e :: es) [] pos) (mCall fTuple m) := md_call cd_tuple h fun _ q => pe_callTy call_tuple_of hg hm (by decide +kernel) q (he := he) (hpl := hpl)
theorem md_all (hc : X.calm = true) (hg : Gl X "all") (hm : X.mg "all" = none) (h : MAp T X W0 (e :: es) m) (he : starEach (e :: es) X.env = (false, eval e X.env) :: starEach es X.env := by rfl) (hpl : (backTo pos (starEach es X.env)).any (·.1) = false := by rfl) :
    MD T X W0 (.Call (.Name "all" p) (e :: es) [] pos) (mCall fAll m) := md_call cd_all h fun _ q => pe_callB (cr_all hc) hg hm (by decide +kernel) q (he := he) (hpl := hpl)
theorem md_any (hc : X.calm = true) (hg : Gl X "any") (hm : X.mg "any" = none) (h : MAp T X W0 (e :: es) m) (he : starEach (e :: es) X.env = (false, eval e X.env) :: starEach es X.env := by rfl) (hpl : (backTo pos (starEach es X.env)).any (·.1) = false := by rfl) :
    MD T X W0 (.Call (.Name "any" p) (e :: es) [] pos) (mCall fAny m) := md_call cd_any h fun _ q => pe_callB (cr_any hc) hg hm (by decide +kernel) q (he := he) (hpl := hpl)
theorem md_sum (hc : X.calm = true) (hg : Gl X "sum") (hm : X.mg "sum" = none) (h : MAp T X W0 (e :: es) m) (he : starEach (e :: es) X.env = (false, eval e X.env) :: starEach es X.env := by rfl) (hpl : (backTo pos (starEach es X.env)).any (·.1) = false := by rfl) :
    MD T X W0 (.Call (.Name "sum" p) (e :: es) [] pos) (mCall fSum m) := md_call cd_sum h fun _ q => pe_callB (cr_sum hc) hg hm (by decide +kernel) q (he := he) (hpl := hpl)
theorem md_isi (hg : Gl X "isinstance") (hm : X.mg "isinstance" = none) (h : MAp T X W0 (e :: es) m) (he : starEach (e :: es) X.env = (false, eval e X.env) :: starEach es X.env := by rfl) (hpl : (backTo pos (starEach es X.env)).any (·.1) = false := by rfl) :
    MD T X W0 (.Call (.Name "isinstance" p) (e :: es) [] pos) (mCall fIsi m) := md_call cd_isi h fun _ q => pe_callB call_isi hg hm (by decide +kernel) q (he := he) (hpl := hpl)
/-- x.bit_length() -/
def mBits (m : M D) : M D := fun s => (m s).bind fun d s => match d with
  | .int i => .ok (.int (Builtin.Int.intBits i : Nat)) s
  | _ => .bad
theorem md_bits {apos : Pos} {m : M D} (h : MD T X W0 e m) (hbase : attributeBase e "bit_length" X.env (eval e X.env) = eval e X.env := by rfl) (hline : (apos.endLine == pos.line) = true := by rfl) : MD T X W0 (.Call (.Attribute e "bit_length" apos) [] [] pos) (mBits m) := by
  obtain ⟨t, p, h⟩ := h.ex
  refine ⟨_, pe_bits p hbase hline, fun σ W H s Q rl q => h σ W H s _ rl ((Post.bind q).imp fun x s1 W1 H1 a1 q1 v hv => ?_)⟩
  cases x with
  | int i => cases hv; exact ⟨i, rfl, Post.here a1.rel q1 _ (.int _)⟩
  | _ => exact q1.elim
def mNeg (m : M D) : M D := fun s => (m s).bind fun d s => match d with
  | .int i => .ok (.int (-i)) s
  | _ => .bad
theorem md_neg {m : M D} (h : MD T X W0 e m) : MD T X W0 (.UnaryOp .USub e pos) (mNeg m) := by
  obtain ⟨t, p, h⟩ := h.ex
  refine ⟨_, pe_un un_neg p, fun σ W H s Q rl q => h σ W H s _ rl ((Post.bind q).imp fun x s1 W1 H1 a1 q1 v hv => ?_)⟩
  cases x with
  | int i => cases hv; exact ⟨i, rfl, Post.here a1.rel q1 _ (.int _)⟩
  | _ => exact q1.elim
end
end Mv

set_option Elab.async false
set_option linter.all false
set_option maxRecDepth 100000
set_option maxHeartbeats 2000000
/-! Mv7: a def called by what it makes of data; statements, loops. -/
namespace Mv
open PySem PySem.Spec PyProof.Rows L2

/-! ### a def by what it makes of data -/
/-- from the parameters' slots: the answer, and the slots at the end (an own object's as it was left) -/
abbrev Fn := S → R D
def spF (G : En) (n : Nat) (F : Fn) : Sp := fun vs H Q E => ∃ W s, vs.length = n ∧ RelS G W H (vs.map some) s ∧ Post G (fun cl d _ H' => E cl d H') s (vs.map some) W H (F s) (KD G Q)
theorem spF_len {G : En} {n : Nat} {F : Fn} {ps : List Str} (h : ps.length = n) : ∀ vs H Q E, spF G n F vs H Q E → vs.length = ps.length := fun vs H Q E ⟨_, _, e, _⟩ => e.trans h.symm
/-- a call by data alone -/
def mFn0 (F : Fn) (m : M (List D)) : M D := fun s => (m s).bind fun ds s => match F (ds.map .fz) with
  | .ok d _ => .ok d s
  | .ex c d _ => .ex c d s
  | .bad => .bad
/-- .. with the own object at slot i among the arguments -/
def mFn1 (F : Fn) (i : Nat) (m : M (List D × List D)) : M D := fun s => (m s).bind fun p s => match s[i]? with
  | some sl => match F (p.1.map .fz ++ sl :: p.2.map .fz) with
    | .ok d s' => match s'[p.1.length]? with
      | some sl' => .ok d (s.set i sl')
      | none => .bad
    | .ex c d s' => match s'[p.1.length]? with
      | some sl' => .ex c d (s.set i sl')
      | none => .bad
    | .bad => .bad
  | none => .bad
section
variable {G : En} {W H : Hp} {σ : L2.St} {s : S}
theorem reps_rel {vs : List V} {ds : List D} (hs : Same W H) (ht : TabsW G.T W H) (h : Reps G W vs ds) : RelS G W H (vs.map some) (ds.map .fz) := by
  refine ⟨hs, ht, by simp [h.length], fun i sl e => ?_, fun i j o o' a e => ?_⟩
  · rw [List.getElem?_map] at e
    cases q : ds[i]? with
    | none => rw [q] at e; cases e
    | some d =>
      rw [q] at e
      cases e
      obtain ⟨v, h1, h2⟩ := h.get q
      exact ⟨v, by rw [List.getElem?_map, h1]; rfl, h2⟩
  · rw [List.getElem?_map] at e
    cases q : ds[i]? with
    | none => rw [q] at e; cases e
    | some d => rw [q] at e; cases e
theorem no_own {ds : List D} {σ : L2.St} {a : Addr} : ¬ Own (ds.map .fz) σ a := fun ⟨i, o, e, _⟩ => by
  rw [List.getElem?_map] at e
  cases q : ds[i]? with
  | none => rw [q] at e; cases e
  | some d => rw [q] at e; cases e
theorem Post.after {α : Type} {W0 : WX} {s1 : S} {W1 H1 : Hp} {m : R α} {Kt : α → S → Hp → Hp → Prop} (a : Aft G s σ W H s1 W1 H1) (q : Post G W0 s σ W H m Kt) : Post G W0 s1 σ W1 H1 m Kt := by
  cases m with
  | bad => exact q
  | ex c d s' => exact fun W2 H2 cl od a2 x => q W2 H2 cl od (a.trans a2) x
  | ok b s' => exact fun W2 H2 a2 => q W2 H2 (a.trans a2)
/-- the slots with one own object among data -/
theorem one_rel {vs ws : List V} {ds es : List D} {v : V} {i : Nat} {sl : Sl} (r : RelS G W H σ s) (h1 : Reps G W vs ds) (h2 : Reps G W ws es) (hv : σ[i]? = some (some v)) (hi : s[i]? = some sl) :
    RelS G W H ((vs ++ v :: ws).map some) (ds.map .fz ++ sl :: es.map .fz) := by
  have dis : ∀ j sl', (ds.map Sl.fz ++ sl :: es.map .fz)[j]? = some sl' → (j = ds.length ∧ sl' = sl) ∨ (∃ d v', sl' = .fz d ∧ (vs ++ v :: ws)[j]? = some v' ∧ Rep G W v' d) := fun j sl' e => by
    by_cases hj : j < ds.length
    · rw [List.getElem?_append_left (by simpa using hj), List.getElem?_map] at e
      cases q : ds[j]? with
      | none => rw [q] at e; cases e
      | some d =>
        rw [q] at e
        cases e
        obtain ⟨v', g1, g2⟩ := h1.get q
        exact .inr ⟨d, v', rfl, by rw [List.getElem?_append_left (by rw [h1.length]; exact hj)]; exact g1, g2⟩
    · rw [List.getElem?_append_right (by simpa using hj)] at e
      simp only [List.length_map] at e
      cases q : j - ds.length with
      | zero =>
        rw [q] at e
        cases e
        exact .inl ⟨by omega, rfl⟩
      | succ k =>
        rw [q, List.getElem?_cons_succ, List.getElem?_map] at e
        cases q2 : es[k]? with
        | none => rw [q2] at e; cases e
        | some d =>
          rw [q2] at e
          cases e
          obtain ⟨v', g1, g2⟩ := h2.get q2
          refine .inr ⟨d, v', rfl, ?_, g2⟩
          rw [List.getElem?_append_right (by rw [h1.length]; omega), h1.length, q, List.getElem?_cons_succ]
          exact g1
  refine ⟨r.sub, r.tabs, by simp [h1.length, h2.length], fun j sl' e => ?_, fun j k o o' a e1 e2 _ _ => ?_⟩
  · rcases dis j sl' e with ⟨rfl, rfl⟩ | ⟨d, v', rfl, g1, g2⟩
    · have z : ((vs ++ v :: ws).map some)[ds.length]? = some (some v) := by
        rw [List.getElem?_map, List.getElem?_append_right (by rw [h1.length]; exact Nat.le_refl _), h1.length, Nat.sub_self]; rfl
      rw [z, ← hv]
      exact r.at_ i sl' hi
    · exact ⟨v', by rw [List.getElem?_map, g1]; rfl, g2⟩
  · rcases dis j _ e1 with ⟨rfl, q1⟩ | ⟨d, v', q1, _⟩
    · rcases dis k _ e2 with ⟨rfl, q2⟩ | ⟨d, v', q2, _⟩
      · rfl
      · cases q2
    · cases q1
theorem one_own {vs ws : List V} {ds es : List D} {v : V} {i : Nat} {sl : Sl} (h1 : Reps G W vs ds) (hv : σ[i]? = some (some v)) (hi : s[i]? = some sl) {a : Addr} (o : Own (ds.map .fz ++ sl :: es.map .fz) ((vs ++ v :: ws).map some) a) :
    (∃ u, sl = .ow u) ∧ v = .ref a := by
  obtain ⟨j, u, e1, e2⟩ := o
  by_cases hj : j < ds.length
  · rw [List.getElem?_append_left (by simpa using hj), List.getElem?_map] at e1
    cases q : ds[j]? with
    | none => rw [q] at e1; cases e1
    | some d => rw [q] at e1; cases e1
  · rw [List.getElem?_append_right (by simpa using hj)] at e1
    simp only [List.length_map] at e1
    cases q : j - ds.length with
    | zero =>
      rw [q] at e1
      cases e1
      have hj2 : j = vs.length := by rw [h1.length]; omega
      subst hj2
      rw [List.getElem?_map, List.getElem?_append_right (Nat.le_refl _), Nat.sub_self] at e2
      have e2 : some (some v) = some (some (V.ref a)) := e2
      exact ⟨⟨u, rfl⟩, Option.some.inj (Option.some.inj e2)⟩
    | succ k =>
      rw [q, List.getElem?_cons_succ, List.getElem?_map] at e1
      cases q2 : es[k]? with
      | none => rw [q2] at e1; cases e1
      | some d => rw [q2] at e1; cases e1
/-- behind such a call: the slot i as the callee left it -/
theorem one_back {vs ws : List V} {ds es : List D} {v : V} {i : Nat} {sl sl' : Sl} {s' : S} {W' H' : Hp} (r : RelS G W H σ s) (h1 : Reps G W vs ds) (hv : σ[i]? = some (some v)) (hi : s[i]? = some sl)
    (af : Aft G (ds.map .fz ++ sl :: es.map .fz) ((vs ++ v :: ws).map some) W H s' W' H') (hsl : s'[ds.length]? = some sl') : Aft G s σ W H (s.set i sl') W' H' := by
  have hvk : ((vs ++ v :: ws).map some)[ds.length]? = some (some v) := by
    rw [List.getElem?_map, List.getElem?_append_right (by rw [h1.length]; exact Nat.le_refl _), h1.length, Nat.sub_self]; rfl
  have li : i < s.length := (List.getElem?_eq_some_iff.mp hi).1
  have callee : ∀ a, Own (ds.map .fz ++ sl :: es.map .fz) ((vs ++ v :: ws).map some) a → (∃ u, s[i]? = some (.ow u)) ∧ v = .ref a := fun a o => by
    obtain ⟨⟨u, e⟩, e2⟩ := one_own h1 hv hi o
    exact ⟨⟨u, by rw [hi, e]⟩, e2⟩
  have own1 : ∀ a, Own (ds.map .fz ++ sl :: es.map .fz) ((vs ++ v :: ws).map some) a → Own s σ a := fun a o => by
    obtain ⟨⟨u, e⟩, e2⟩ := callee a o
    subst e2
    exact ⟨i, u, e, hv⟩
  have other : ∀ j o, j ≠ i → s[j]? = some (Sl.ow o) → ∀ a, σ[j]? = some (some (V.ref a)) → ¬ Own (ds.map .fz ++ sl :: es.map .fz) ((vs ++ v :: ws).map some) a := fun j o hj e a e2 z => by
    obtain ⟨⟨u, e3⟩, e4⟩ := callee a z
    subst e4
    exact hj (r.inj j i o u a e e3 e2 hv)
  have slown : ∀ o, sl' = .ow o → ∀ a, v = .ref a → Own (ds.map .fz ++ sl :: es.map .fz) ((vs ++ v :: ws).map some) a := fun o e a ea =>
    af.own a ⟨ds.length, o, by rw [hsl, e], by rw [hvk, ea]⟩
  have ownB : ∀ a, Own (s.set i sl') σ a → Own s σ a := fun a ⟨j, o, e1, e2⟩ => by
    by_cases hj : i = j
    · subst hj
      rw [List.getElem?_set_self li] at e1
      have e1 := Option.some.inj e1
      rw [hv] at e2
      exact own1 a (slown o e1 a (Option.some.inj (Option.some.inj e2)))
    · rw [List.getElem?_set_ne hj] at e1
      exact ⟨j, o, e1, e2⟩
  refine ⟨af.stp.mono own1, ⟨af.rel.sub, af.rel.tabs, by rw [List.length_set]; exact r.len, fun j x e => ?_, fun j k o o' a e1 e2 e3 e4 => ?_⟩, ownB⟩
  · by_cases hj : i = j
    · subst hj
      rw [List.getElem?_set_self li] at e
      cases e
      rw [hv, ← hvk]
      exact af.rel.at_ _ _ hsl
    · rw [List.getElem?_set_ne hj] at e
      have q := r.at_ j x e
      cases x with
      | no => trivial
      | fz d =>
        obtain ⟨v', q1, q2⟩ := q
        exact ⟨v', q1, q2.mono af.stp.data⟩
      | ow o =>
        obtain ⟨p, u, q1, q2, q3, q4⟩ := q
        have n := other j o (fun z => hj z.symm) e p q1
        exact ⟨p, u, q1, af.stp.keep p u q2 n q4.notTbl, af.stp.fresh p u q2 q3 n, q4.mono af.stp.data⟩
  · have side : ∀ j k o o', i = j → i ≠ k → (s.set i sl')[j]? = some (Sl.ow o) → (s.set i sl')[k]? = some (Sl.ow o') → σ[j]? = some (some (V.ref a)) → σ[k]? = some (some (V.ref a)) → False := fun j k o o' hj hk e1 e2 e3 e4 => by
      subst hj
      rw [List.getElem?_set_self li] at e1
      rw [List.getElem?_set_ne hk] at e2
      rw [hv] at e3
      have ea := Option.some.inj (Option.some.inj e3)
      exact other k o' (fun z => hk z.symm) e2 a e4 (slown o (Option.some.inj e1) a ea)
    by_cases hj : i = j
    · by_cases hk : i = k
      · rw [← hj, ← hk]
      · exact (side j k o o' hj hk e1 e2 e3 e4).elim
    · by_cases hk : i = k
      · exact (side k j o' o hk hj e2 e1 e4 e3).elim
      · rw [List.getElem?_set_ne hj] at e1
        rw [List.getElem?_set_ne hk] at e2
        exact r.inj j k o o' a e1 e2 e3 e4
end
/-- arguments with one own object among them -/
structure MA1 (T : List (Addr × Str)) (X : Cx) (W0 : WX) (es : List Expr) (i : Nat) (m : M (List D × List D)) : Prop where
  ex : ∃ t : TA, PA X es t ∧ ∀ σ W H s Q, RelS (X.G T) W H σ s → Post (X.G T) W0 s σ W H (m s) (fun p _ W' H' => ∀ vs v ws, Reps (X.G T) W' vs p.1 → σ[i]? = some (some v) → Reps (X.G T) W' ws p.2 → Q (vs ++ v :: ws) H') → t σ H Q
  len : ∀ s p s', m s = .ok p s' → p.1.length + p.2.length + 1 = es.length
def m1Here (i : Nat) (m : M (List D)) : M (List D × List D) := fun s => match s[i]? with
  | some (.ow _) => (m s).bind fun ds s => .ok ([], ds) s
  | some (.fz _) => (m s).bind fun ds s => .ok ([], ds) s
  | _ => .bad
def m1Cons (a : M D) (m : M (List D × List D)) : M (List D × List D) := fun s => (a s).bind fun x s => (m s).bind fun p s => .ok (x :: p.1, p.2) s
section
variable {T : List (Addr × Str)} {X : Cx} {W0 : WX} {e : Expr} {es : List Expr} {pos p : Pos}
theorem m1_here (i : Nat) {x : Str} {px : Pos} {m : M (List D)} (h : MA T X W0 es m) (hN : X.N[i]? = some x := by rfl) (hv : Vis X.env.scope x := by first | exact Or.inl rfl | exact Or.inr (Or.inl rfl) | exact Or.inr (Or.inr rfl)) (hd : (x == ("__debug__" : Str)) = false := by decide)
    (hcd : (x == ("__classdict__" : Str)) = false := by decide) (hs : starEach (.Name x px :: es) X.env = (false, eval (.Name x px) X.env) :: starEach es X.env := by rfl) : MA1 T X W0 (.Name x px :: es) i (m1Here i m) := by
  obtain ⟨⟨t, pt, h⟩, hl⟩ := h
  refine ⟨⟨_, pa_cons (pe_var hN hv hd hcd) pt hs, fun σ W H s Q r q => ?_⟩, fun s p s' z => ?_⟩
  rotate_left
  · unfold m1Here at z
    split at z
    · obtain ⟨ds, s1, e1, z⟩ := bind_len z
      cases z
      simp [hl _ _ _ e1]
    · obtain ⟨ds, s1, e1, z⟩ := bind_len z
      cases z
      simp [hl _ _ _ e1]
    · cases z
  have go : ∀ v, σ[i]? = some (some v) → Post (X.G T) W0 s σ W H ((m s).bind fun ds s => .ok (([] : List D), ds) s) (fun p _ W' H' => ∀ vs v ws, Reps (X.G T) W' vs p.1 → σ[i]? = some (some v) → Reps (X.G T) W' ws p.2 → Q (vs ++ v :: ws) H') → tCons (tVar i) t σ H Q := fun v hv q =>
    ⟨v, hv, h σ W H s _ r ((Post.bind q).imp fun ds s1 W1 H1 a1 q1 ws hws => Post.here a1.rel q1 [] v ws .nil hv hws)⟩
  unfold m1Here at q
  cases e1 : s[i]? with
  | none => simp only [e1] at q; exact q.elim
  | some sl =>
    cases sl with
    | no => simp only [e1] at q; exact q.elim
    | fz d =>
      simp only [e1] at q
      obtain ⟨v, e2, _⟩ := r.get e1
      exact go v e2 q
    | ow o =>
      simp only [e1] at q
      obtain ⟨p, u, e2, _⟩ := r.ow e1
      exact go _ e2 q
theorem m1_cons {i : Nat} {a : M D} {m : M (List D × List D)} (ha : MD T X W0 e a) (h : MA1 T X W0 es i m) (hs : starEach (e :: es) X.env = (false, eval e X.env) :: starEach es X.env := by rfl) : MA1 T X W0 (e :: es) i (m1Cons a m) := by
  obtain ⟨ta, pa, ha⟩ := ha.ex
  obtain ⟨⟨t, pt, h⟩, hl⟩ := h
  refine ⟨⟨_, pa_cons pa pt hs, fun σ W H s Q r q => ha σ W H s _ r ((Post.bind q).imp fun x s1 W1 H1 a1 q1 v hv => h σ W1 H1 s1 _ a1.rel ((Post.bind q1).imp fun p s2 W2 H2 a2 q2 vs v' ws h1 h2 h3 =>
    Post.here a2.rel q2 (v :: vs) v' ws (.cons (a2.rep hv) h1) h2 h3))⟩, fun s p s' z => ?_⟩
  obtain ⟨x, s1, e1, z⟩ := bind_len z
  obtain ⟨q, s2, e2, z⟩ := bind_len z
  cases z
  have := hl _ _ _ e2
  simp only [List.length_cons]
  omega
variable {k : Nat} {f : Addr} {fd : FuncData} {ps : List Str} {n : Nat} {F : Fn} {x : Str}
theorem md_fn0 {m : M (List D)} (Fk : FnOk X.prog X.w X.K X.mg X.base (L2.CX X.prog X.w) k f fd ps (spF (X.G T) n F)) (hr : Room k X.A) (hg : Gl X x) (hm : X.mg x = some (.ref f)) (hk : PySem.W.keepIn X.K (.ref f) = true) (hb : L2.Binds X.K fd ps []) (tk : Takes X W0) (h : MA T X W0 (e :: es) m)
    (hn : (e :: es).length = n := by rfl) (hdb : (x == ("__debug__" : Str)) = false := by decide) (he : starEach (e :: es) X.env = (false, eval e X.env) :: starEach es X.env := by rfl) (hpl : (backTo pos (starEach es X.env)).any (·.1) = false := by rfl) :
    MD T X W0 (.Call (.Name x p) (e :: es) [] pos) (mFn0 F m) := by
  obtain ⟨⟨t, pt, h⟩, hl⟩ := h
  refine ⟨_, pe_callS Fk hr hg hm hk hb (fun σ => passAt tk σ) pt hdb he hpl, fun σ W H s Q r q => h σ W H s _ r ?_⟩
  have q : Post (X.G T) W0 s σ W H ((m s).bind _) (KD (X.G T) Q) := q
  cases em : m s with
  | bad => rw [em] at q; exact q
  | ex c d s1 => rw [em] at q; exact q
  | ok ds s1 =>
    rw [em] at q
    intro W1 H1 a1 vs hvs
    have q := Post.after a1 q
    have hlen : vs.length = n := by rw [hvs.length, hl _ _ _ em]; exact hn
    refine ⟨W1, ds.map .fz, hlen, reps_rel a1.rel.sub a1.rel.tabs hvs, ?_⟩
    simp only [R.bind_ok] at q
    have up : ∀ {s' W' H'}, Aft (X.G T) (ds.map .fz) (vs.map some) W1 H1 s' W' H' → Aft (X.G T) s1 σ W1 H1 s1 W' H' := fun af =>
      .over a1.rel (af.stp.mono fun a z => (no_own z).elim) af.rel.sub af.rel.tabs
    cases eF : F (ds.map .fz) with
    | bad => simp only [eF] at q; exact q
    | ex c d s' =>
      simp only [eF] at q
      exact fun W' H' cl od af x => q W' H' cl od (up af) x
    | ok d s' =>
      simp only [eF] at q
      exact fun W' H' af v hv => q W' H' (up af) v hv
theorem md_fn1 {i : Nat} {m : M (List D × List D)} (Fk : FnOk X.prog X.w X.K X.mg X.base (L2.CX X.prog X.w) k f fd ps (spF (X.G T) n F)) (hr : Room k X.A) (hg : Gl X x) (hm : X.mg x = some (.ref f)) (hk : PySem.W.keepIn X.K (.ref f) = true) (hb : L2.Binds X.K fd ps []) (tk : Takes X W0) (h : MA1 T X W0 (e :: es) i m)
    (hn : (e :: es).length = n := by rfl) (hdb : (x == ("__debug__" : Str)) = false := by decide) (he : starEach (e :: es) X.env = (false, eval e X.env) :: starEach es X.env := by rfl) (hpl : (backTo pos (starEach es X.env)).any (·.1) = false := by rfl) :
    MD T X W0 (.Call (.Name x p) (e :: es) [] pos) (mFn1 F i m) := by
  obtain ⟨⟨t, pt, h⟩, hl⟩ := h
  refine ⟨_, pe_callS Fk hr hg hm hk hb (fun σ => passAt tk σ) pt hdb he hpl, fun σ W H s Q r q => h σ W H s _ r ?_⟩
  have q : Post (X.G T) W0 s σ W H ((m s).bind _) (KD (X.G T) Q) := q
  cases em : m s with
  | bad => rw [em] at q; exact q
  | ex c d s1 => rw [em] at q; exact q
  | ok p s1 =>
    rw [em] at q
    intro W1 H1 a1 vs v ws h1 hv h2
    have q := Post.after a1 q
    simp only [R.bind_ok] at q
    cases e1 : s1[i]? with
    | none => simp only [e1] at q; exact q.elim
    | some sl =>
      simp only [e1] at q
      refine ⟨W1, p.1.map .fz ++ sl :: p.2.map .fz, by rw [← hn, ← hl _ _ _ em]; simp [h1.length, h2.length]; omega, one_rel a1.rel h1 h2 hv e1, ?_⟩
      cases eF : F (p.1.map .fz ++ sl :: p.2.map .fz) with
      | bad => simp only [eF] at q; exact q
      | ex c d s' =>
        simp only [eF] at q
        cases e2 : s'[p.1.length]? with
        | none => simp only [e2] at q; exact q.elim
        | some sl' =>
          simp only [e2] at q
          exact fun W' H' cl od af x => q W' H' cl od (one_back a1.rel h1 hv e1 af e2) x
      | ok d s' =>
        simp only [eF] at q
        cases e2 : s'[p.1.length]? with
        | none => simp only [e2] at q; exact q.elim
        | some sl' =>
          simp only [e2] at q
          exact fun W' H' af v hv' => q W' H' (one_back a1.rel h1 hv e1 af e2) v hv'
end
end Mv

set_option Elab.async false
set_option linter.all false
set_option maxRecDepth 100000
set_option maxHeartbeats 2000000
/-! Mv8: statements, targets, loops. -/
namespace Mv
open PySem PySem.Spec PyProof.Rows L2

inductive Fl where
  | nx | rt (d : D) | bk | ct
  /-- a new object is handed back -/
  | ro (o : MO)
/-- behind a statement; fx: the slots that it does not store to -/
structure AftS (G : En) (fx : List Nat) (s : S) (σ : L2.St) (W H : Hp) (s' : S) (σ' : L2.St) (W' H' : Hp) : Prop where
  stp : Stp (Own s σ) W H W' H'
  rel : RelS G W' H' σ' s'
  own : ∀ a, Own s' σ' a → Own s σ a ∨ H a = none
  fix : ∀ i ∈ fx, σ'[i]? = σ[i]?
def PostS (G : En) (W0 : WX) (fx : List Nat) (s : S) (σ : L2.St) (W H : Hp) (m : R Fl) (D : Ends) : Prop := match m with
  | .ok .nx s' => ∀ σ' W' H', AftS G fx s σ W H s' σ' W' H' → D.nx σ' H'
  | .ok (.rt d) s' => ∀ σ' W' H' v, AftS G fx s σ W H s' σ' W' H' → Rep G W' v d → D.rt v H'
  | .ok (.ro o) s' => ∀ σ' W' H' p u, AftS G fx s σ W H s' σ' W' H' → (Own s σ p ∨ H p = none) → H' p = some u → W' p = none → RepO G W' u o → D.rt (.ref p) H'
  | .ok .bk s' => ∀ σ' W' H', AftS G fx s σ W H s' σ' W' H' → D.bk σ' H'
  | .ok .ct s' => ∀ σ' W' H', AftS G fx s σ W H s' σ' W' H' → D.ct σ' H'
  | .ex c d s' => ∀ σ' W' H' cl od, AftS G fx s σ W H s' σ' W' H' → ExOk G W' H' c d cl od → W0 cl od σ' H'
  | .bad => False
section
variable {G : En} {W0 : WX} {fx : List Nat} {s s1 s2 : S} {σ σ1 σ2 : L2.St} {W H W1 H1 W2 H2 : Hp} {m : R Fl} {D : Ends}
theorem Aft.toS (a : Aft G s σ W H s1 W1 H1) : AftS G fx s σ W H s1 σ W1 H1 := ⟨a.stp, a.rel, fun x h => .inl (a.own x h), fun _ _ => rfl⟩
theorem AftS.refl (r : RelS G W H σ s) : AftS G fx s σ W H s σ W H := (Aft.refl r).toS
theorem AftS.trans (a : AftS G fx s σ W H s1 σ1 W1 H1) (b : AftS G fx s1 σ1 W1 H1 s2 σ2 W2 H2) : AftS G fx s σ W H s2 σ2 W2 H2 := by
  refine ⟨a.stp.trans b.stp a.own, b.rel, fun x h => ?_, fun i hi => (b.fix i hi).trans (a.fix i hi)⟩
  rcases b.own x h with h | h
  · exact a.own x h
  · exact .inr (a.stp.back h)
theorem PostS.after (a : AftS G fx s σ W H s1 σ1 W1 H1) (q : PostS G W0 fx s σ W H m D) : PostS G W0 fx s1 σ1 W1 H1 m D := by
  cases m with
  | bad => exact q
  | ex c d s' => exact fun σ2 W2 H2 cl od b x => q σ2 W2 H2 cl od (a.trans b) x
  | ok f s' =>
    cases f with
    | nx => exact fun σ2 W2 H2 b => q σ2 W2 H2 (a.trans b)
    | rt d => exact fun σ2 W2 H2 v b h => q σ2 W2 H2 v (a.trans b) h
    | ro o => exact fun σ2 W2 H2 p u b h1 h2 h3 h4 => q σ2 W2 H2 p u (a.trans b) (h1.elim (a.own p) fun z => .inr (a.stp.back z)) h2 h3 h4
    | bk => exact fun σ2 W2 H2 b => q σ2 W2 H2 (a.trans b)
    | ct => exact fun σ2 W2 H2 b => q σ2 W2 H2 (a.trans b)
/-- an expression ahead -/
theorem PostS.bind {α : Type} {m : R α} {f : α → S → R Fl} (q : PostS G W0 fx s σ W H (m.bind f) D) : Post G W0 s σ W H m fun a s1 W1 H1 => PostS G W0 fx s1 σ W1 H1 (f a s1) D := by
  cases m with
  | bad => exact q
  | ex c d s' => exact fun W' H' cl od a x => q σ W' H' cl od a.toS x
  | ok b s' => exact fun W' H' a => PostS.after a.toS q
end
structure MS (T : List (Addr × Str)) (X : Cx) (W0 : WX) (fx : List Nat) (st : Stmt) (m : M Fl) : Prop where
  ex : ∃ t : TS, PS X st t ∧ ∀ σ W H s D, RelS (X.G T) W H σ s → PostS (X.G T) W0 fx s σ W H (m s) D → t D σ H
structure MSs (T : List (Addr × Str)) (X : Cx) (W0 : WX) (fx : List Nat) (sts : List Stmt) (m : M Fl) : Prop where
  ex : ∃ t : TS, PSs X sts t ∧ ∀ σ W H s D, RelS (X.G T) W H σ s → PostS (X.G T) W0 fx s σ W H (m s) D → t D σ H
/-- a target: what storing data there makes of the slots -/
structure MG (T : List (Addr × Str)) (X : Cx) (fx : List Nat) (tg : Expr) (st : D → S → Option S) : Prop where
  ex : ∃ g : TG, PG X tg g ∧ ∀ σ W H s v d s' Q, RelS (X.G T) W H σ s → Rep (X.G T) W v d → st d s = some s' → (∀ σ', AftS (X.G T) fx s σ W H s' σ' W H → Q σ' H) → g v σ H Q
structure MGs (T : List (Addr × Str)) (X : Cx) (fx : List Nat) (tgs : List Expr) (st : List D → S → Option S) : Prop where
  ex : ∃ g : TGs, PGs X tgs g ∧ ∀ σ W H s vs ds s' Q, RelS (X.G T) W H σ s → Reps (X.G T) W vs ds → st ds s = some s' → (∀ σ', AftS (X.G T) fx s σ W H s' σ' W H → Q σ' H) → g vs σ H Q
  len : ∀ ds s s', st ds s = some s' → ds.length = tgs.length

/-! ### slots stored -/
theorem AftS.set {G : En} {fx : List Nat} {s : S} {σ : L2.St} {W H : Hp} {i : Nat} {v : V} {sl : Sl} (r : RelS G W H σ s) (hi : i ∉ fx) (h : SlOk G W H (some (some v)) sl) (hn : ∀ o a, sl = .ow o → v = .ref a → (Own s σ a → ∃ o', s[i]? = some (.ow o') ∧ σ[i]? = some (some (.ref a))) ∧ (Own s σ a ∨ H a = none)) : AftS G fx s σ W H (s.set i sl) (σ.set i (some v)) W H := by
  by_cases li : s.length ≤ i
  · have e1 : s.set i sl = s := List.set_eq_of_length_le (by omega)
    have e2 : σ.set i (some v) = σ := List.set_eq_of_length_le (by rw [← r.len]; omega)
    rw [e1, e2]
    exact .refl r
  have li : i < s.length := by omega
  have li2 : i < σ.length := by rw [← r.len]; exact li
  refine ⟨.refl, ⟨r.sub, r.tabs, by simp [r.len], fun j x e => ?_, fun j k o o' a e1 e2 e3 e4 => ?_⟩, fun a ⟨j, o, e1, e2⟩ => ?_, fun j hj => ?_⟩
  · by_cases hj : i = j
    · subst hj
      rw [List.getElem?_set_self li] at e
      rw [List.getElem?_set_self li2]
      cases e
      exact h
    · rw [List.getElem?_set_ne hj] at e ⊢
      exact r.at_ j x e
  · have side : ∀ j k o o', i = j → i ≠ k → (s.set i sl)[j]? = some (Sl.ow o) → (s.set i sl)[k]? = some (Sl.ow o') → (σ.set i (some v))[j]? = some (some (V.ref a)) → (σ.set i (some v))[k]? = some (some (V.ref a)) → False := fun j k o o' hj hk e1 e2 e3 e4 => by
      subst hj
      rw [List.getElem?_set_self li] at e1
      rw [List.getElem?_set_self li2] at e3
      rw [List.getElem?_set_ne hk] at e2 e4
      obtain ⟨g1, _⟩ := hn o a (Option.some.inj e1) (Option.some.inj (Option.some.inj e3))
      obtain ⟨o2, g2, g3⟩ := g1 ⟨k, o', e2, e4⟩
      exact hk (r.inj i k o2 o' a g2 e2 g3 e4)
    by_cases hj : i = j
    · by_cases hk : i = k
      · rw [← hj, ← hk]
      · exact (side j k o o' hj hk e1 e2 e3 e4).elim
    · by_cases hk : i = k
      · exact (side k j o' o hk hj e2 e1 e4 e3).elim
      · rw [List.getElem?_set_ne hj] at e1 e3
        rw [List.getElem?_set_ne hk] at e2 e4
        exact r.inj j k o o' a e1 e2 e3 e4
  · by_cases hj : i = j
    · subst hj
      rw [List.getElem?_set_self li] at e1
      rw [List.getElem?_set_self li2] at e2
      exact (hn o a (Option.some.inj e1) (Option.some.inj (Option.some.inj e2))).2
    · rw [List.getElem?_set_ne hj] at e1 e2
      exact .inl ⟨j, o, e1, e2⟩
  · rw [List.getElem?_set_ne (fun z : i = j => hi (z ▸ hj))]
/-- an own object is written -/
theorem Aft.wr {G : En} {s : S} {σ : L2.St} {W H : Hp} {i : Nat} {o o' : MO} {p : Addr} {u' : HO} (r : RelS G W H σ s) (e : s[i]? = some (.ow o)) (ep : σ[i]? = some (some (.ref p))) (h : RepO G W u' o') : Aft G s σ W H (s.set i (.ow o')) W (upd H p u') := by
  obtain ⟨p', u, e1, h1, h2, h3⟩ := r.ow e
  rw [ep] at e1
  cases e1
  have li : i < s.length := (List.getElem?_eq_some_iff.mp e).1
  have op : Own s σ p := ⟨i, o, e, ep⟩
  have ownB : ∀ a, Own (s.set i (.ow o')) σ a → Own s σ a := fun a ⟨j, x, z1, z2⟩ => by
    by_cases hj : i = j
    · subst hj
      rw [ep] at z2
      cases z2
      exact op
    · rw [List.getElem?_set_ne hj] at z1
      exact ⟨j, x, z1, z2⟩
  refine ⟨⟨Same.refl _, fun a x e' n _ => ?_, fun a x e' w n => w, fun a x e' => ?_⟩, ⟨fun b x e' => ?_, ⟨tabs_upd r.tabs.t h1 h3.notTbl h3.notExt, r.tabs.w⟩, by rw [List.length_set]; exact r.len, fun j x e' => ?_, fun j k o1 o2 a z1 z2 z3 z4 => ?_⟩, ownB⟩
  · rw [upd_ne (fun z : a = p => n (z ▸ op))]; exact e'
  · by_cases ha : a = p
    · subst ha; exact ⟨_, upd_same⟩
    · exact ⟨x, by rw [upd_ne ha]; exact e'⟩
  · rw [upd_ne (fun z : b = p => by subst z; rw [h2] at e'; cases e')]; exact r.sub b x e'
  · by_cases hj : i = j
    · subst hj
      rw [List.getElem?_set_self li] at e'
      cases e'
      exact ⟨p, u', ep, upd_same, h2, h⟩
    · rw [List.getElem?_set_ne hj] at e'
      have q := r.at_ j x e'
      cases x with
      | no => trivial
      | fz d => exact q
      | ow o2 =>
        obtain ⟨p2, u2, q1, q2, q3, q4⟩ := q
        refine ⟨p2, u2, q1, ?_, q3, q4⟩
        rw [upd_ne (fun z : p2 = p => hj (by subst z; exact r.inj i j o o2 p2 e e' ep q1))]
        exact q2
  · have un : ∀ {k : Nat} {o2 : MO}, (s.set i (.ow o'))[k]? = some (Sl.ow o2) → ∃ o3, s[k]? = some (Sl.ow o3) := fun {k o2} z => by
      by_cases hk : i = k
      · subst hk; exact ⟨o, e⟩
      · rw [List.getElem?_set_ne hk] at z; exact ⟨_, z⟩
    obtain ⟨o3, g3⟩ := un z1
    obtain ⟨o4, g4⟩ := un z2
    exact r.inj j k o3 o4 a g3 g4 z3 z4

/-! ### targets -/
def tgN (i : Nat) : D → S → Option S := fun d s => some (s.set i (.fz d))
def tgs0 : List D → S → Option S
  | [], s => some s
  | _ :: _, _ => none
def tgsC (t : D → S → Option S) (u : List D → S → Option S) : List D → S → Option S
  | d :: ds, s => (t d s).bind (u ds)
  | [], _ => none
def tgT (u : List D → S → Option S) : D → S → Option S := fun d s => match d with
  | .tup ds => u ds s
  | .rtp ds => u ds s
  | _ => none
section
variable {T : List (Addr × Str)} {X : Cx} {W0 : WX} {fx : List Nat} {e : Expr} {pos : Pos}
theorem mg_name {i : Nat} {x : Str} (hN : X.N.Nodup) (hi : X.N[i]? = some x) (hx : Loc X.env.scope x) (hf : i ∉ fx) (hfn : X.fn x = true ∨ X.env.scope.names.lookup x = some .local := by first | exact .inl rfl | exact .inr rfl | assumption) : MG T X fx (.Name x pos) (tgN i) := by
  refine ⟨_, pg_name hN hi hx hfn, fun σ W H s v d s' Q r hv e q => ?_⟩
  cases e
  exact q _ (.set r hf ⟨v, rfl, hv⟩ fun o a z => nomatch z)
theorem mgs_nil : MGs T X fx [] tgs0 := by
  refine ⟨⟨_, pgs_nil, fun σ W H s vs ds s' Q r hv e q => ?_⟩, fun ds s s' e => ?_⟩
  · cases hv with
    | nil => cases e; exact ⟨rfl, q _ (.refl r)⟩
    | cons h t => cases e
  · cases ds with
    | nil => rfl
    | cons d ds => cases e
theorem mgs_cons {e : Expr} {es : List Expr} {t : D → S → Option S} {u : List D → S → Option S} (h : MG T X fx e t) (h2 : MGs T X fx es u) (hs : (assignEach (e :: es) X.env).map (·.2) = assign e X.env :: (assignEach es X.env).map (·.2) := by rfl) : MGs T X fx (e :: es) (tgsC t u) := by
  obtain ⟨g, pg, h⟩ := h.ex
  obtain ⟨⟨g2, pg2, h2⟩, hl⟩ := h2
  refine ⟨⟨_, pgs_cons pg pg2 hs, fun σ W H s vs ds s' Q r hv e q => ?_⟩, fun ds s s' e => ?_⟩
  · cases hv with
    | nil => cases e
    | cons hv1 hv2 =>
      rename_i v vs d ds
      simp only [tgsC, Option.bind_eq_some_iff] at e
      obtain ⟨s1, e1, e2⟩ := e
      exact ⟨v, vs, rfl, h σ W H s v d s1 _ r hv1 e1 fun σ1 a1 => h2 σ1 W H s1 vs ds s' Q a1.rel hv2 e2 fun σ2 a2 => q σ2 (a1.trans a2)⟩
  · cases ds with
    | nil => cases e
    | cons d ds =>
      simp only [tgsC, Option.bind_eq_some_iff] at e
      obtain ⟨s1, e1, e2⟩ := e
      rw [List.length_cons, List.length_cons, hl _ _ _ e2]
theorem mg_tup {es : List Expr} {k : Nat} {u : List D → S → Option S} (hc : X.calm = true) (h : MGs T X fx es u) (hst : (assignEach es X.env).findIdx? (·.1) = none := by rfl) (hn : (assignEach es X.env).length = es.length := by rfl) : MG T X fx (.Tuple es k pos) (tgT u) := by
  obtain ⟨⟨g, pg, h⟩, hl⟩ := h
  refine ⟨_, pg_tup hc pg hn hst, fun σ W H s v d s' Q r hv e q => ?_⟩
  unfold tgT at e
  split at e
  · obtain ⟨a, vs, rfl, h1, h2⟩ := hv.seqT rfl
    exact ⟨a, vs, rfl, sqT_mono r.sub h1, by rw [h2.length]; exact hl _ _ _ e, h σ W H s vs _ s' Q r h2 e q⟩
  · obtain ⟨a, vs, rfl, h1, h2⟩ := hv.seqT rfl
    exact ⟨a, vs, rfl, sqT_mono r.sub h1, by rw [h2.length]; exact hl _ _ _ e, h σ W H s vs _ s' Q r h2 e q⟩
  · cases e

/-! ### statements -/
def mSeq (a b : M Fl) : M Fl := fun s => (a s).bind fun f s => match f with
  | .nx => b s
  | f => .ok f s
def mNx : M Fl := fun s => .ok .nx s
theorem mss_nil : MSs T X W0 fx [] mNx := ⟨_, pss_nil, fun σ W H s D r q => q σ W H (.refl r)⟩
theorem mss_cons {st : Stmt} {rest : List Stmt} {m n : M Fl} (h : MS T X W0 fx st m) (h2 : MSs T X W0 fx rest n) : MSs T X W0 fx (st :: rest) (mSeq m n) := by
  obtain ⟨t, p, h⟩ := h.ex
  obtain ⟨u, p2, h2⟩ := h2.ex
  refine ⟨_, pss_cons p p2, fun σ W H s D r q => h σ W H s _ r ?_⟩
  have q : PostS (X.G T) W0 fx s σ W H ((m s).bind _) D := q
  cases em : m s with
  | bad => rw [em] at q; exact q
  | ex c d s1 => rw [em] at q; exact q
  | ok f s1 =>
    rw [em] at q
    cases f with
    | nx => exact fun σ1 W1 H1 a => h2 σ1 W1 H1 s1 D a.rel (PostS.after a q)
    | rt d => exact q
    | ro o => exact q
    | bk => exact q
    | ct => exact q
theorem mss_one {st : Stmt} {m : M Fl} (h : MS T X W0 fx st m) : MSs T X W0 fx [st] m := by
  obtain ⟨t, p, h⟩ := h.ex
  exact ⟨t, pss_one p, h⟩
def mBk : M Fl := fun s => .ok .bk s
def mCt : M Fl := fun s => .ok .ct s
theorem ms_pass : MS T X W0 fx (.Pass pos) mNx := ⟨_, ps_pass, fun σ W H s D r q => q σ W H (.refl r)⟩
theorem ms_break : MS T X W0 fx (.Break pos) mBk := ⟨_, ps_break, fun σ W H s D r q => q σ W H (.refl r)⟩
theorem ms_continue : MS T X W0 fx (.Continue pos) mCt := ⟨_, ps_continue, fun σ W H s D r q => q σ W H (.refl r)⟩
def mRet (m : M D) : M Fl := fun s => (m s).bind fun d s => .ok (.rt d) s
theorem ms_ret {m : M D} (h : MD T X W0 e m) : MS T X W0 fx (.Return (some e) pos) (mRet m) := by
  obtain ⟨t, p, h⟩ := h.ex
  refine ⟨_, ps_ret p, fun σ W H s D r q => h σ W H s _ r ((PostS.bind q).imp fun d s1 W1 H1 a1 q1 v hv => q1 σ W1 H1 v (.refl a1.rel) hv)⟩
/-- a new object is handed back: made here; or the frame's own at i -/
def mRetF (m : M MO) : M Fl := fun s => (m s).bind fun o s => .ok (.ro o) s
theorem ms_retF {m : M MO} (h : MF T X W0 e m) : MS T X W0 fx (.Return (some e) pos) (mRetF m) := by
  obtain ⟨t, p, h⟩ := h.ex
  refine ⟨_, ps_ret p, fun σ W H s D r q => h σ W H s _ r ?_⟩
  have q : PostS (X.G T) W0 fx s σ W H ((m s).bind fun o s => .ok (.ro o) s) D := q
  cases em : m s with
  | bad => rw [em] at q; exact q
  | ex c d s1 => rw [em] at q; exact fun W' H' cl od a x => q σ W' H' cl od a.toS x
  | ok o s1 =>
    rw [em] at q
    exact fun W1 H1 a1 p u h1 h2 h3 h4 => q σ W1 H1 p u a1.toS (.inr h1) h2 h3 h4
def mRetO (i : Nat) : M Fl := fun s => match s[i]? with
  | some (.ow o) => .ok (.ro o) s
  | _ => .bad
theorem ms_retO (i : Nat) {x : Str} {px : Pos} (hN : X.N[i]? = some x := by rfl) (hv : Vis X.env.scope x := by first | exact Or.inl rfl | exact Or.inr (Or.inl rfl) | exact Or.inr (Or.inr rfl)) (hd : (x == ("__debug__" : Str)) = false := by decide)
    (hcd : (x == ("__classdict__" : Str)) = false := by decide) : MS T X W0 fx (.Return (some (.Name x px)) pos) (mRetO i) := by
  refine ⟨_, ps_ret (pe_var hN hv hd hcd), fun σ W H s D r q => ?_⟩
  unfold mRetO at q
  split at q
  · rename_i o e
    obtain ⟨p, u, e1, h1, h2, h3⟩ := r.ow e
    exact ⟨_, e1, q σ W H p u (.refl r) (.inl ⟨i, o, e, e1⟩) h1 h2 h3⟩
  · exact q.elim
def mRetN : M Fl := fun s => .ok (.rt .non) s
theorem ms_retN : MS T X W0 fx (.Return none pos) mRetN := ⟨_, ps_retN, fun σ W H s D r q => q σ W H .non (.refl r) .non⟩
def mDrop (m : M D) : M Fl := fun s => (m s).bind fun _ s => .ok .nx s
theorem ms_expr {m : M D} (h : MD T X W0 e m) (hs : swapsWith e none pos.line X.env = pure false := by rfl) : MS T X W0 fx (.Expr e pos) (mDrop m) := by
  obtain ⟨t, p, h⟩ := h.ex
  refine ⟨_, ps_expr p hs, fun σ W H s D r q => h σ W H s _ r ((PostS.bind q).imp fun d s1 W1 H1 a1 q1 v hv => q1 σ W1 H1 (.refl a1.rel))⟩
theorem ms_if {c : Expr} {a b : List Stmt} {m : M Bool} {n o : M Fl} (h : MT T X W0 c m) (ha : MSs T X W0 fx a n) (hb : MSs T X W0 fx b o) : MS T X W0 fx (.If c a b pos) (mIf m n o) := by
  obtain ⟨t, p, h⟩ := h.ex
  obtain ⟨ta, pa, ha⟩ := ha.ex
  obtain ⟨tb, pb, hb⟩ := hb.ex
  refine ⟨_, ps_if p pa pb, fun σ W H s D r q => h σ W H s _ r ((PostS.bind q).imp fun x s1 W1 H1 a1 q1 => ?_)⟩
  cases x with
  | true =>
    simp only [if_true] at q1 ⊢
    exact ha σ W1 H1 s1 D a1.rel q1
  | false =>
    simp only [if_neg Bool.false_ne_true] at q1 ⊢
    exact hb σ W1 H1 s1 D a1.rel q1
def mAsg (m : M D) (st : D → S → Option S) : M Fl := fun s => (m s).bind fun d s => match st d s with
  | some s => .ok .nx s
  | none => .bad
theorem ms_asg {tg : Expr} {m : M D} {st : D → S → Option S} (h : MD T X W0 e m) (hg : MG T X fx tg st) (hs : swapsWithSole [tg] e pos.line X.env = pure false := by rfl) (hw : swappedStores [tg] e X.env = pure none := by rfl) (h1 : (assignEach [tg] X.env).map (·.2) = [assign tg X.env] := by rfl) : MS T X W0 fx (.Assign [tg] e pos) (mAsg m st) := by
  obtain ⟨t, p, h⟩ := h.ex
  obtain ⟨g, pg, hg⟩ := hg.ex
  refine ⟨_, ps_asg p pg hs hw h1, fun σ W H s D r q => h σ W H s _ r ((PostS.bind q).imp fun d s1 W1 H1 a1 q1 v hv => ?_)⟩
  cases e1 : st d s1 with
  | none => simp only [e1] at q1; exact q1.elim
  | some s2 =>
    simp only [e1] at q1
    exact hg σ W1 H1 s1 v d s2 _ a1.rel hv e1 fun σ2 a2 => q1 σ2 W1 H1 a2
/-- x = e, data -/
def mSet (i : Nat) (m : M D) : M Fl := fun s => (m s).bind fun d s => .ok .nx (s.set i (.fz d))
theorem ms_set (i : Nat) {x : Str} {px : Pos} {m : M D} (hN : X.N.Nodup) (h : MD T X W0 e m) (hi : X.N[i]? = some x := by rfl) (hx : Loc X.env.scope x := by first | exact .inl rfl | exact .inr rfl) (hf : i ∉ fx := by decide) (hs : swapsWith e (some (.Name x px)) pos.line X.env = pure false := by rfl)
    (hfn : X.fn x = true ∨ X.env.scope.names.lookup x = some .local := by first | exact .inl rfl | exact .inr rfl | assumption) : MS T X W0 fx (.Assign [.Name x px] e pos) (mSet i m) := by
  obtain ⟨t, p, h⟩ := h.ex
  refine ⟨_, ps_set hN hi hx p hs hfn, fun σ W H s D r q => h σ W H s _ r ((PostS.bind q).imp fun d s1 W1 H1 a1 q1 v hv => ?_)⟩
  exact q1 _ W1 H1 (.set a1.rel hf ⟨v, rfl, hv⟩ fun o a z => nomatch z)
/-- x = e, a new object of the frame's own -/
def mSetO (i : Nat) (m : M MO) : M Fl := fun s => (m s).bind fun o s => .ok .nx (s.set i (.ow o))
theorem setO_ok {i : Nat} {m : R MO} {σ : L2.St} {W H : Hp} {s : S} {D : Ends} (r : RelS (X.G T) W H σ s) (hf : i ∉ fx) (q : PostS (X.G T) W0 fx s σ W H (m.bind fun o s => .ok .nx (s.set i (.ow o))) D) : Post (X.G T) W0 s σ W H m (KF (X.G T) H fun v H' => D.nx (σ.set i (some v)) H') := by
  cases m with
  | bad => exact q
  | ex c d s' => exact fun W' H' cl od a x => q σ W' H' cl od a.toS x
  | ok o s1 =>
    intro W1 H1 a1 p u hp hu hw ho
    have no : ¬ Own s1 σ p := fun z => by
      obtain ⟨u', z1, _⟩ := (a1.own p z).lt r
      rw [hp] at z1; cases z1
    -- store, then tell all of it from the beginning
    have q : ∀ σ' W' H', AftS (X.G T) fx s σ W H (s1.set i (.ow o)) σ' W' H' → D.nx σ' H' := q
    refine q _ W1 H1 ?_
    by_cases li : s1.length ≤ i
    · have e1 : s1.set i (.ow o) = s1 := List.set_eq_of_length_le li
      have e2 : σ.set i (some (V.ref p)) = σ := List.set_eq_of_length_le (by rw [← a1.rel.len]; exact li)
      rw [e1, e2]
      exact a1.toS
    have li : i < s1.length := by omega
    have li2 : i < σ.length := by rw [← a1.rel.len]; exact li
    refine ⟨a1.stp, ⟨a1.rel.sub, a1.rel.tabs, by simp [a1.rel.len], fun j x e => ?_, fun j k o1 o2 a e1 e2 e3 e4 => ?_⟩, fun a ⟨j, o1, e1, e2⟩ => ?_, fun j hj => ?_⟩
    · by_cases hj : i = j
      · subst hj
        rw [List.getElem?_set_self li] at e
        rw [List.getElem?_set_self li2]
        cases e
        exact ⟨p, u, rfl, hu, hw, ho⟩
      · rw [List.getElem?_set_ne hj] at e ⊢
        exact a1.rel.at_ j x e
    · have side : ∀ j k o1 o2, i = j → i ≠ k → (s1.set i (.ow o))[j]? = some (Sl.ow o1) → (s1.set i (.ow o))[k]? = some (Sl.ow o2) → (σ.set i (some (V.ref p)))[j]? = some (some (V.ref a)) → (σ.set i (some (V.ref p)))[k]? = some (some (V.ref a)) → False := fun j k o1 o2 hj hk e1 e2 e3 e4 => by
        subst hj
        rw [List.getElem?_set_self li2] at e3
        rw [List.getElem?_set_ne hk] at e2 e4
        cases e3
        exact no ⟨k, o2, e2, e4⟩
      by_cases hj : i = j
      · by_cases hk : i = k
        · rw [← hj, ← hk]
        · exact (side j k o1 o2 hj hk e1 e2 e3 e4).elim
      · by_cases hk : i = k
        · exact (side k j o2 o1 hk hj e2 e1 e4 e3).elim
        · rw [List.getElem?_set_ne hj] at e1 e3
          rw [List.getElem?_set_ne hk] at e2 e4
          exact a1.rel.inj j k o1 o2 a e1 e2 e3 e4
    · by_cases hj : i = j
      · subst hj
        rw [List.getElem?_set_self li2] at e2
        cases e2
        exact .inr hp
      · rw [List.getElem?_set_ne hj] at e1 e2
        exact .inl (a1.own a ⟨j, o1, e1, e2⟩)
    · rw [List.getElem?_set_ne (fun z : i = j => hf (z ▸ hj))]
theorem ms_setO (i : Nat) {x : Str} {px : Pos} {m : M MO} (hN : X.N.Nodup) (h : MF T X W0 e m) (hi : X.N[i]? = some x := by rfl) (hx : Loc X.env.scope x := by first | exact .inl rfl | exact .inr rfl) (hf : i ∉ fx := by decide) (hs : swapsWith e (some (.Name x px)) pos.line X.env = pure false := by rfl)
    (hfn : X.fn x = true ∨ X.env.scope.names.lookup x = some .local := by first | exact .inl rfl | exact .inr rfl | assumption) : MS T X W0 fx (.Assign [.Name x px] e pos) (mSetO i m) := by
  obtain ⟨t, p, h⟩ := h.ex
  exact ⟨_, ps_set hN hi hx p hs hfn, fun σ W H s D r q => h σ W H s _ r (setO_ok r hf q)⟩
/-- a, b = e1, e2 (two names) -/
def mPar (i j : Nat) (m : M (List D)) : M Fl := fun s => (m s).bind fun ds s => match ds with
  | [d, e] => .ok .nx ((s.set i (.fz d)).set j (.fz e))
  | _ => .bad
theorem ms_par (i j : Nat) {x y : Str} {a b : Expr} {m : M (List D)} {px py pt : Pos} {kt k2 pt2} (hc : X.calm = true) (hN : X.N.Nodup) (h : MA T X W0 [a, b] m) (hi : X.N[i]? = some x := by rfl) (hj : X.N[j]? = some y := by rfl) (hij : i ≠ j := by decide)
    (hx : X.env.scope.names.lookup x = some .local := by rfl) (hy : X.env.scope.names.lookup y = some .local := by rfl) (hf : i ∉ fx := by decide) (hf2 : j ∉ fx := by decide)
    (mk : ∀ ta, PA X [a, b] ta → PS X (.Assign [.Tuple [.Name x px, .Name y py] kt pt] (.Tuple [a, b] k2 pt2) pos) (tPar i j ta)) : MS T X W0 fx (.Assign [.Tuple [.Name x px, .Name y py] kt pt] (.Tuple [a, b] k2 pt2) pos) (mPar i j m) := by
  obtain ⟨⟨t, p, h⟩, hl⟩ := h
  refine ⟨_, mk t p, fun σ W H s D r q => h σ W H s _ r ((PostS.bind q).imp fun ds s1 W1 H1 a1 q1 vs hvs => ?_)⟩
  cases hvs with
  | nil => exact q1.elim
  | cons h1 r1 =>
    cases r1 with
    | nil => exact q1.elim
    | cons h2 r2 =>
      cases r2 with
      | cons h3 r3 => exact q1.elim
      | nil =>
        have b1 : AftS (X.G T) fx s1 σ W1 H1 _ _ W1 H1 := .set (sl := .fz _) a1.rel hf ⟨_, rfl, h1⟩ fun o a z => nomatch z
        exact ⟨_, _, rfl, q1 _ W1 H1 (b1.trans (.set (sl := .fz _) b1.rel hf2 ⟨_, rfl, h2⟩ fun o a z => nomatch z))⟩
/-- x.append(e), x an own list -/
def mApp (i : Nat) (m : M D) : M Fl := fun s => match s[i]? with
  | some (.ow (.lst _)) => (m s).bind fun d s => match s[i]? with
    | some (.ow (.lst xs)) => if xs.length < sizeLine then .ok .nx (s.set i (.ow (.lst (xs ++ [d])))) else .bad
    | _ => .bad
  | _ => .bad
theorem RelS.owL {G : En} {W H : Hp} {σ : L2.St} {s : S} {i : Nat} {xs : List D} (r : RelS G W H σ s) (e : s[i]? = some (.ow (.lst xs))) : ∃ p vs, σ[i]? = some (some (.ref p)) ∧ H p = some (.lst vs) ∧ Reps G W vs xs := by
  obtain ⟨p, u, e1, h1, h2, h3⟩ := r.ow e
  cases h3 with
  | lst h => exact ⟨p, _, e1, h1, h⟩
theorem ms_app (i : Nat) {x : Str} {px apos cpos : Pos} {m : M D} (h : MD T X W0 e m) (hN : X.N[i]? = some x := by rfl) (hv : Vis X.env.scope x := by first | exact Or.inl rfl | exact Or.inr (Or.inl rfl) | exact Or.inr (Or.inr rfl)) (hd : (x == ("__debug__" : Str)) = false := by decide)
    (hcd : (x == ("__classdict__" : Str)) = false := by decide) (hbase : attributeBase (.Name x px) "append" X.env (eval (.Name x px) X.env) = eval (.Name x px) X.env := by rfl)
    (hfew : ((backTo cpos (starEach [e] X.env)).all (fun x => !x.1) && (backToKw cpos (keywordEach [] X.env)).all (fun x => x.1.isSome)
      && decide (([e] : List Expr).length + ([] : List Keyword).length + (if ([] : List Keyword).isEmpty then 0 else 1) < 30)) = true := by rfl)
    (hline : (apos.endLine == cpos.line) = true := by rfl) (he : starEach [e] X.env = (false, eval e X.env) :: starEach [] X.env := by rfl) (hplain : (backTo cpos (starEach [] X.env)).any (·.1) = false := by rfl)
    (hs : swapsWith (.Call (.Attribute (.Name x px) "append" apos) [e] [] cpos) none pos.line X.env = pure false := by rfl) :
    MS T X W0 fx (.Expr (.Call (.Attribute (.Name x px) "append" apos) [e] [] cpos) pos) (mApp i m) := by
  obtain ⟨t, p, h⟩ := h.ex
  refine ⟨_, ps_expr (pe_bm PySem.F.plainAttrs_list PySem.F.slot_list_append PySem.F.type_list_append mt_append (pe_var hN hv hd hcd) (pa_cons p pa_nil he) hbase hfew hline he hplain) hs, fun σ W H s D r q => ?_⟩
  unfold mApp at q
  split at q
  · rename_i xs0 e0
    obtain ⟨p0, vs0, g1, g2, _⟩ := r.owL e0
    refine ⟨_, g1, .inl ⟨rfl, vs0, SqL.of g2⟩, h σ W H s _ r ((PostS.bind q).imp fun d s1 W1 H1 a1 q1 v hv => ?_)⟩
    split at q1
    · rename_i xs e1
      split at q1
      · rename_i hl
        obtain ⟨p1, vs, g3, g4, g5⟩ := a1.rel.owL e1
        rw [g1] at g3
        cases g3
        refine ⟨p0, vs, v, rfl, rfl, g4, by rw [g5.length]; exact hl, ?_⟩
        exact q1 σ W1 _ (Aft.wr a1.rel e1 g1 (.lst (g5.append (.cons hv .nil)))).toS
      · exact q1.elim
    · exact q1.elim
  · exact q.elim
end
end Mv

set_option Elab.async false
set_option linter.all false
set_option maxRecDepth 100000
set_option maxHeartbeats 2000000
/-! Mv9: own lists written, what is walked, loops. -/
namespace Mv
open PySem PySem.Spec PyProof.Rows L2

section
variable {T : List (Addr × Str)} {X : Cx} {W0 : WX} {fx : List Nat} {e : Expr} {pos : Pos}
/-- x.pop(), x an own list -/
def mPop (i : Nat) : M D := fun s => match s[i]? with
  | some (.ow (.lst xs)) => match xs[xs.length - 1]? with
    | some d => .ok d (s.set i (.ow (.lst xs.dropLast)))
    | none => .bad
  | _ => .bad
theorem md_pop (i : Nat) {x : Str} {px apos : Pos} (hN : X.N[i]? = some x := by rfl) (hv : Vis X.env.scope x := by first | exact Or.inl rfl | exact Or.inr (Or.inl rfl) | exact Or.inr (Or.inr rfl)) (hd : (x == ("__debug__" : Str)) = false := by decide)
    (hcd : (x == ("__classdict__" : Str)) = false := by decide) (hbase : attributeBase (.Name x px) "pop" X.env (eval (.Name x px) X.env) = eval (.Name x px) X.env := by rfl) (hline : (apos.endLine == pos.line) = true := by rfl) :
    MD T X W0 (.Call (.Attribute (.Name x px) "pop" apos) [] [] pos) (mPop i) := by
  refine ⟨_, pe_bm0 PySem.F.plainAttrs_list PySem.F.slot_list_pop PySem.F.type_list_pop mt_pop (pe_var hN hv hd hcd) hbase hline, fun σ W H s Q r q => ?_⟩
  unfold mPop at q
  split at q
  · rename_i xs e0
    obtain ⟨p, vs, g1, g2, g3⟩ := r.owL e0
    split at q
    · rename_i d ed
      obtain ⟨v, g4, g5⟩ := g3.get ed
      refine ⟨_, g1, .inl ⟨rfl, vs, SqL.of g2⟩, p, vs, v, rfl, rfl, g2, by rw [g3.length]; exact g4, ?_⟩
      exact q W _ (Aft.wr r e0 g1 (.lst g3.dropLast)) v g5
    · exact q.elim
  · exact q.elim
/-- x.reverse() as a statement -/
def mRevS (i : Nat) : M Fl := fun s => match s[i]? with
  | some (.ow (.lst xs)) => .ok .nx (s.set i (.ow (.lst xs.reverse)))
  | _ => .bad
theorem ms_rev (i : Nat) {x : Str} {px apos cpos : Pos} (hN : X.N[i]? = some x := by rfl) (hv : Vis X.env.scope x := by first | exact Or.inl rfl | exact Or.inr (Or.inl rfl) | exact Or.inr (Or.inr rfl)) (hd : (x == ("__debug__" : Str)) = false := by decide)
    (hcd : (x == ("__classdict__" : Str)) = false := by decide) (hbase : attributeBase (.Name x px) "reverse" X.env (eval (.Name x px) X.env) = eval (.Name x px) X.env := by rfl) (hline : (apos.endLine == cpos.line) = true := by rfl)
    (hs : swapsWith (.Call (.Attribute (.Name x px) "reverse" apos) [] [] cpos) none pos.line X.env = pure false := by rfl) :
    MS T X W0 fx (.Expr (.Call (.Attribute (.Name x px) "reverse" apos) [] [] cpos) pos) (mRevS i) := by
  refine ⟨_, ps_expr (pe_bm0 PySem.F.plainAttrs_list PySem.F.slot_list_reverse PySem.F.type_list_reverse mt_reverse (pe_var hN hv hd hcd) hbase hline) hs, fun σ W H s D r q => ?_⟩
  unfold mRevS at q
  split at q
  · rename_i xs e0
    obtain ⟨p, vs, g1, g2, g3⟩ := r.owL e0
    exact ⟨_, g1, .inl ⟨rfl, vs, SqL.of g2⟩, p, vs, rfl, rfl, g2, q σ W _ (Aft.wr r e0 g1 (.lst g3.reverse)).toS⟩
  · exact q.elim
/-- x[k] = e, x an own list -/
def mSetI (i : Nat) (m : M D) (k : M D) : M Fl := fun s => (m s).bind fun d s => match s[i]? with
  | some (.ow (.lst _)) => (k s).bind fun j s => match j with
    | .int j => match s[i]? with
      | some (.ow (.lst xs)) => match ixN xs.length j with
        | some n => .ok .nx (s.set i (.ow (.lst (xs.set n d))))
        | none => .bad
      | _ => .bad
    | _ => .bad
  | _ => .bad
theorem ms_seti (i : Nat) {x : Str} {px p2 : Pos} {ke : Expr} {m k : M D} (h : MD T X W0 e m) (hk : MD T X W0 ke k) (mk : ∀ te g, PE X e te → PG X (.Subscript (.Name x px) ke p2) g → PS X (.Assign [.Subscript (.Name x px) ke p2] e pos) (tAsg te g))
    (pg : ∀ to ti, PE X (.Name x px) to → PE X ke ti → PG X (.Subscript (.Name x px) ke p2) (gSub to ti rSetL))
    (hN : X.N[i]? = some x := by rfl) (hv : Vis X.env.scope x := by first | exact Or.inl rfl | exact Or.inr (Or.inl rfl) | exact Or.inr (Or.inr rfl)) (hd : (x == ("__debug__" : Str)) = false := by decide) (hcd : (x == ("__classdict__" : Str)) = false := by decide) :
    MS T X W0 fx (.Assign [.Subscript (.Name x px) ke p2] e pos) (mSetI i m k) := by
  obtain ⟨t, p, h⟩ := h.ex
  obtain ⟨tk, pk, hk⟩ := hk.ex
  refine ⟨_, mk _ _ p (pg _ _ (pe_var hN hv hd hcd) pk), fun σ W H s D r q => h σ W H s _ r ((PostS.bind q).imp fun d s1 W1 H1 a1 q1 v hv' => ?_)⟩
  split at q1
  · rename_i xs0 e0
    obtain ⟨p0, vs0, g1, g2, _⟩ := a1.rel.owL e0
    refine ⟨_, g1, hk σ W1 H1 s1 _ a1.rel ((PostS.bind q1).imp fun j s2 W2 H2 a2 q2 w hw => ?_)⟩
    cases j with
    | int j =>
      cases hw
      simp only at q2
      split at q2
      · rename_i xs e1
        split at q2
        · rename_i n en
          obtain ⟨p1, vs, g3, g4, g5⟩ := a2.rel.owL e1
          rw [g1] at g3
          cases g3
          refine ⟨p0, vs, j, n, rfl, rfl, g4, by rw [g5.length]; exact en, ?_⟩
          exact q2 σ W2 _ (Aft.wr a2.rel e1 g1 (.lst (g5.set n (a2.rep hv')))).toS
        · exact q2.elim
      · exact q2.elim
    | _ => exact q2.elim
  · exact q1.elim
/-- x op= e, data -/
def mAug (i : Nat) (f : D → D → Option D) (m : M D) : M Fl := fun s => match s[i]? with
  | some (.fz d) => (m s).bind fun e s => match f d e with
    | some z => .ok .nx (s.set i (.fz z))
    | none => .bad
  | _ => .bad
theorem ms_aug (i : Nat) {x : Str} {px : Pos} {op : Operator} {r : TIp} {f : D → D → Option D} {m : M D} (ho : PIp X op r) (hf : OpD (X.G T) r f) (hN : X.N.Nodup) (h : MD T X W0 e m) (hi : X.N[i]? = some x := by rfl) (hx : Loc X.env.scope x := by first | exact .inl rfl | exact .inr rfl) (hfx : i ∉ fx := by decide)
    (hfn : X.fn x = true ∨ X.env.scope.names.lookup x = some .local := by first | exact .inl rfl | exact .inr rfl | assumption) (mk : ∀ te, PE X e te → PS X (.AugAssign (.Name x px) op e pos) (tAug i te r)) : MS T X W0 fx (.AugAssign (.Name x px) op e pos) (mAug i f m) := by
  obtain ⟨t, p, h⟩ := h.ex
  refine ⟨_, mk _ p, fun σ W H s D rl q => ?_⟩
  unfold mAug at q
  split at q
  · rename_i d e0
    obtain ⟨v, g1, g2⟩ := rl.get e0
    refine ⟨v, g1, h σ W H s _ rl ((PostS.bind q).imp fun e s1 W1 H1 a1 q1 u hu => ?_)⟩
    split at q1
    · rename_i z ez
      refine hf W1 H1 v u d e z _ a1.rel.sub (.inl (a1.rep g2)) (.inl hu) ez fun w W' H' st hs hw => ?_
      have a2 := a1.rel.stp0 st hs
      exact q1 _ W' H' (a2.toS.trans (.set (sl := .fz z) a2.rel hfx ⟨w, rfl, hw⟩ fun o a z => nomatch z))
    · exact q1.elim
  · exact q.elim

/-! ### what is walked -/
def ItOk (G : En) (J : It) (W : Hp) (ds : List D) : Prop := ∀ (i : Nat) (W2 H2 : Hp), Same W W2 → Same W2 H2 → (ds.length ≤ i → J.stop i H2) ∧ (∀ d, ds[i]? = some d → J.go i H2 ∧ ∀ x H3, J.yld i H2 x H3 → ∃ W3, Stp0 W2 H2 W3 H3 ∧ Same W3 H3 ∧ Rep G W3 x d)
theorem ItOk.mono {G : En} {J : It} {W W' : Hp} {ds : List D} (e : Same W W') (h : ItOk G J W ds) : ItOk G J W' ds := fun i W2 H2 h1 h2 => h i W2 H2 (e.trans h1) h2
structure MI (T : List (Addr × Str)) (X : Cx) (W0 : WX) (tg e : Expr) (m : M (List D)) : Prop where
  ex : ∃ wi : TI, PI X tg e wi ∧ ∀ σ W H s R, RelS (X.G T) W H σ s → Post (X.G T) W0 s σ W H (m s) (fun ds _ W' H' => ∀ J, ItOk (X.G T) J W' ds → R J H') → wi σ H R
theorem pi_or {tg : Expr} {w1 w2 : TI} (h : PI X tg e w1) (h2 : PI X tg e w2) : PI X tg e (fun σ H R => w1 σ H R ∨ w2 σ H R) := ⟨fun pins s σ H R I q => by
  rcases q with q | q
  · exact h.run pins s σ H R I q
  · exact h2.run pins s σ H R I q⟩
theorem itl_ok {G : En} {W : Hp} {a : Addr} {vs : List V} {ds : List D} (h : SqL G.K W a vs) (r : Reps G W vs ds) : ItOk G (Itl G.K a) W ds := fun i W2 H2 h1 h2 => by
  have q := (h1.trans h2).seq h
  refine ⟨fun hl => ⟨vs, q, by rw [r.length]; exact hl⟩, fun d hd => ?_⟩
  obtain ⟨v, g1, g2⟩ := r.get hd
  refine ⟨⟨vs, v, q, g1⟩, fun x H3 y => ?_⟩
  obtain ⟨e, y⟩ := y
  subst e
  have := y vs q
  rw [g1] at this
  cases this
  exact ⟨W2, .refl, h2, g2.mono h1⟩
theorem itt_ok {G : En} {W : Hp} {a : Addr} {vs : List V} {ds : List D} (h : SqT G.K W a vs) (r : Reps G W vs ds) : ItOk G (Itt G.K a) W ds := fun i W2 H2 h1 h2 => by
  have q := sqT_mono (h1.trans h2) h
  refine ⟨fun hl => ⟨vs, q, by rw [r.length]; exact hl⟩, fun d hd => ?_⟩
  obtain ⟨v, g1, g2⟩ := r.get hd
  refine ⟨⟨vs, v, q, g1⟩, fun x H3 y => ?_⟩
  obtain ⟨e, y⟩ := y
  subst e
  have := y vs q
  rw [g1] at this
  cases this
  exact ⟨W2, .refl, h2, g2.mono h1⟩
def mItems (m : M D) : M (List D) := fun s => (m s).bind fun d s => match d.items with
  | some xs => .ok xs s
  | none => .bad
theorem mi_seq {tg : Expr} {m : M D} (h : MD T X W0 e m) : MI T X W0 tg e (mItems m) := by
  obtain ⟨t, p, h⟩ := h.ex
  refine ⟨_, pi_or (pi_list (tg := tg) p) (pi_tup (tg := tg) p), fun σ W H s Rr r q => ?_⟩
  have q : Post (X.G T) W0 s σ W H ((m s).bind _) _ := q
  cases em : m s with
  | bad => rw [em] at q; exact q.elim
  | ex c d s1 =>
    rw [em] at q
    exact .inl (h σ W H s _ r (by rw [em]; exact q))
  | ok d s1 =>
    rw [em] at q
    have q : Post (X.G T) W0 s σ W H (match d.items with
      | some xs => R.ok xs s1
      | none => .bad) (fun ds _ W' H' => ∀ J, ItOk (X.G T) J W' ds → Rr J H') := q
    have L : ∀ xs, d.seqL = some xs → d.items = some xs → iList X.K t σ H Rr := fun xs e ei => h σ W H s _ r (by
      rw [em]
      rw [ei] at q
      intro W1 H1 a1 v hv
      obtain ⟨a, vs, rfl, g1, g2⟩ := hv.seqL e
      exact ⟨a, rfl, ⟨vs, a1.rel.sub.seq g1⟩, q W1 H1 a1 _ (itl_ok g1 g2)⟩)
    have T : ∀ xs, d.seqT = some xs → d.items = some xs → iTup X.K t σ H Rr := fun xs e ei => h σ W H s _ r (by
      rw [em]
      rw [ei] at q
      intro W1 H1 a1 v hv
      obtain ⟨a, vs, rfl, g1, g2⟩ := hv.seqT e
      exact ⟨a, rfl, ⟨vs, sqT_mono a1.rel.sub g1⟩, q W1 H1 a1 _ (itt_ok g1 g2)⟩)
    cases d with
    | lst xs => exact .inl (L xs rfl rfl)
    | rls xs => exact .inl (L xs rfl rfl)
    | tup xs => exact .inr (T xs rfl rfl)
    | rtp xs => exact .inr (T xs rfl rfl)
    | _ => exact q.elim
def rangeD (lo : Int) (n : Nat) : List D := (List.range n).map fun i => .int (lo + (i : Nat))
theorem itr_ok {G : En} {W : Hp} {lo : Int} {n : Nat} : ItOk G (Itr lo n) W (rangeD lo n) := fun i W2 H2 h1 h2 => by
  refine ⟨fun hl => by
    have : n ≤ i := by simpa [rangeD] using hl
    exact this, fun d hd => ?_⟩
  unfold rangeD at hd
  rw [List.getElem?_map] at hd
  have hi : i < n := by
    have := (List.getElem?_eq_some_iff.mp (show ((List.range n).map fun i : Nat => D.int (lo + i))[i]? = some d by rw [List.getElem?_map]; exact hd)).1
    simpa using this
  rw [List.getElem?_range hi] at hd
  cases hd
  refine ⟨hi, fun x H3 y => ?_⟩
  obtain ⟨e, y⟩ := y
  subst e; subst y
  exact ⟨W2, .refl, h2, .int _⟩
def mRange1 (m : M (List D)) : M (List D) := fun s => (m s).bind fun ds s => match ds with
  | [.int j] => if -(2 ^ 62) ≤ j ∧ j < 2 ^ 62 then .ok (rangeD 0 j.toNat) s else .bad
  | _ => .bad
def mRange2 (m : M (List D)) : M (List D) := fun s => (m s).bind fun ds s => match ds with
  | [.int i, .int j] => if -(2 ^ 62) ≤ i ∧ i < 2 ^ 62 ∧ -(2 ^ 62) ≤ j ∧ j < 2 ^ 62 then .ok (rangeD i (j - i).toNat) s else .bad
  | _ => .bad
theorem mi_range1 {tg a : Expr} {p : Pos} {m : M (List D)} (hg : Gl X "range") (hm : X.mg "range" = none) (h : MA T X W0 [a] m) (hs : starEach [a] X.env = [(false, eval a X.env)] := by rfl) : MI T X W0 tg (.Call (.Name "range" p) [a] [] pos) (mRange1 m) := by
  obtain ⟨⟨t, pt, h⟩, _⟩ := h
  refine ⟨_, pi_range1 hg hm pt hs, fun σ W H s Rr r q => h σ W H s _ r ((Post.bind q).imp fun ds s1 W1 H1 a1 q1 vs hvs => ?_)⟩
  split at q1
  · rename_i j
    split at q1
    · rename_i c
      cases hvs with
      | cons h1 h2 =>
        cases h2
        cases h1
        exact ⟨j, rfl, c.1, c.2, Post.here a1.rel q1 _ itr_ok⟩
    · exact q1.elim
  · exact q1.elim
theorem mi_range2 {tg a b : Expr} {p : Pos} {m : M (List D)} (hg : Gl X "range") (hm : X.mg "range" = none) (h : MA T X W0 [a, b] m) (hs : starEach [a, b] X.env = [(false, eval a X.env), (false, eval b X.env)] := by rfl) (hs2 : starEach [b] X.env = [(false, eval b X.env)] := by rfl) : MI T X W0 tg (.Call (.Name "range" p) [a, b] [] pos) (mRange2 m) := by
  obtain ⟨⟨t, pt, h⟩, _⟩ := h
  refine ⟨_, pi_range2 hg hm pt hs hs2, fun σ W H s Rr r q => h σ W H s _ r ((Post.bind q).imp fun ds s1 W1 H1 a1 q1 vs hvs => ?_)⟩
  split at q1
  · rename_i i j
    split at q1
    · rename_i c
      cases hvs with
      | cons h1 h2 =>
        cases h2 with
        | cons h2 h3 =>
          cases h3
          cases h1
          cases h2
          exact ⟨i, j, rfl, c, Post.here a1.rel q1 _ itr_ok⟩
    · exact q1.elim
  · exact q1.elim

/-! ### loops -/
def forGo (st : D → S → Option S) (body : M Fl) : List D → M Fl
  | [], s => .ok .nx s
  | d :: ds, s => match st d s with
    | none => .bad
    | some s1 => (body s1).bind fun f s2 => match f with
      | .nx => forGo st body ds s2
      | .ct => forGo st body ds s2
      | .bk => .ok .nx s2
      | .rt d => .ok (.rt d) s2
      | .ro o => .ok (.ro o) s2
def mFor (mi : M (List D)) (st : D → S → Option S) (body : M Fl) : M Fl := fun s => (mi s).bind fun ds s => forGo st body ds s
theorem ms_for {tg iter : Expr} {body : List Stmt} {mi : M (List D)} {st : D → S → Option S} {mb : M Fl} (hp : PassesOwn (model X.prog X.w) X.A X.env X.xe) (hc : X.calm = true) (hi : MI T X W0 tg iter mi) (hg : MG T X fx tg st) (hb : MSs T X W0 fx body mb)
    (hs : ∀ x, foldedSetIterable iter X.env x = pure x := by intro _; rfl) : MS T X W0 fx (.For tg iter body [] pos) (mFor mi st mb) := by
  obtain ⟨wi, pi, hi⟩ := hi.ex
  obtain ⟨g, pg, hg⟩ := hg.ex
  obtain ⟨tb, pb, hb⟩ := hb.ex
  refine ⟨_, ps_for hp hc pi pg pb hs, fun σ W H s D r q => hi σ W H s _ r ((PostS.bind q).imp fun ds s1 W1 H1 a1 q1 J hJ => ?_)⟩
  refine ⟨fun i m σ' H' => m = ds.length - i ∧ i ≤ ds.length ∧ ∃ s' W', AftS (X.G T) fx s1 σ W1 H1 s' σ' W' H' ∧ PostS (X.G T) W0 fx s' σ' W' H' (forGo st mb (ds.drop i) s') D, ⟨_, rfl, Nat.zero_le _, s1, W1, .refl a1.rel, q1⟩, ?_⟩
  rintro i m σ' H' ⟨rfl, hi, s', W', a', q'⟩
  obtain ⟨h1, h2⟩ := hJ i W' H' a'.stp.data a'.rel.sub
  by_cases hl : ds.length ≤ i
  · refine .inl ⟨h1 hl, ?_⟩
    rw [List.drop_eq_nil_of_le hl] at q'
    exact q' σ' W' H' (.refl a'.rel)
  · have hl : i < ds.length := by omega
    have ed : ds[i]? = some ds[i] := List.getElem?_eq_getElem hl
    obtain ⟨h3, h4⟩ := h2 _ ed
    rw [List.drop_eq_getElem_cons hl] at q'
    unfold forGo at q'
    refine .inr ⟨h3, fun σ2 H2 => ∃ s2 W2, AftS (X.G T) fx s1 σ W1 H1 s2 σ2 W2 H2 ∧ PostS (X.G T) W0 fx s2 σ2 W2 H2 (forGo st mb (ds.drop (i + 1)) s2) D, fun σ2 H2 ⟨s2, W2, z1, z2⟩ => ⟨_, by omega, rfl, hl, s2, W2, z1, z2⟩, fun x H3 y => ?_⟩
    obtain ⟨W3, st3, sub3, rx⟩ := h4 x H3 y
    have a3 : AftS (X.G T) fx s1 σ W1 H1 s' σ' W3 H3 := a'.trans (a'.rel.stp0 st3 sub3).toS
    have q3 := PostS.after (a'.rel.stp0 st3 sub3).toS q'
    cases e1 : st ds[i] s' with
    | none => simp only [e1] at q3; exact q3.elim
    | some s2 =>
      simp only [e1] at q3
      refine hg σ' W3 H3 s' x _ s2 _ a3.rel rx e1 fun σ2 a2 => hb σ2 W3 H3 s2 _ a2.rel ?_
      have q4 := PostS.after a2 q3
      have a4 := a3.trans a2
      cases em : mb s2 with
      | bad => rw [em] at q4; exact q4
      | ex c d s3 => rw [em] at q4; exact q4
      | ok f s3 =>
        rw [em] at q4
        cases f with
        | nx => exact fun σ5 W5 H5 a5 => ⟨s3, W5, a4.trans a5, PostS.after a5 q4⟩
        | ct => exact fun σ5 W5 H5 a5 => ⟨s3, W5, a4.trans a5, PostS.after a5 q4⟩
        | bk => exact q4
        | rt d => exact q4
        | ro o => exact q4
def whileGo (c : M Bool) (body : M Fl) : Nat → M Fl
  | 0, _ => .bad
  | n + 1, s => (c s).bind fun b s1 => if b = true then (body s1).bind fun f s2 => match f with
      | .nx => whileGo c body n s2
      | .ct => whileGo c body n s2
      | .bk => .ok .nx s2
      | .rt d => .ok (.rt d) s2
      | .ro o => .ok (.ro o) s2
    else .ok .nx s1
theorem ms_while (n : Nat) {c : Expr} {body : List Stmt} {mc : M Bool} {mb : M Fl} (hp : PassesOwn (model X.prog X.w) X.A X.env X.xe) (hc : MT T X W0 c mc) (hb : MSs T X W0 fx body mb) : MS T X W0 fx (.While c body [] pos) (whileGo mc mb n) := by
  obtain ⟨tc, pc, hc⟩ := hc.ex
  obtain ⟨tb, pb, hb⟩ := hb.ex
  refine ⟨_, ps_while hp pc pb, fun σ W H s D r q => ?_⟩
  refine ⟨fun m σ' H' => ∃ s' W', AftS (X.G T) fx s σ W H s' σ' W' H' ∧ PostS (X.G T) W0 fx s' σ' W' H' (whileGo mc mb m s') D, ⟨n, s, W, .refl r, q⟩, ?_⟩
  rintro m σ' H' ⟨s', W', a', q'⟩
  cases m with
  | zero => exact q'.elim
  | succ m =>
    unfold whileGo at q'
    refine hc σ' W' H' s' _ a'.rel ((PostS.bind q').imp fun b s1 W1 H1 a1 q1 => ?_)
    have a1' := a'.trans (a1.toS (fx := fx))
    cases b with
    | false =>
      simp only [if_neg Bool.false_ne_true] at q1 ⊢
      exact q1 σ' W1 H1 (.refl a1.rel)
    | true =>
      simp only [if_true] at q1 ⊢
      refine ⟨fun σ2 H2 => ∃ s2 W2, AftS (X.G T) fx s σ W H s2 σ2 W2 H2 ∧ PostS (X.G T) W0 fx s2 σ2 W2 H2 (whileGo mc mb m s2) D, fun σ2 H2 ⟨s2, W2, z1, z2⟩ => ⟨m, Nat.lt_succ_self _, s2, W2, z1, z2⟩, hb σ' W1 H1 s1 _ a1.rel ?_⟩
      cases em : mb s1 with
      | bad => rw [em] at q1; exact q1
      | ex c d s3 => rw [em] at q1; exact q1
      | ok f s3 =>
        rw [em] at q1
        cases f with
        | nx => exact fun σ5 W5 H5 a5 => ⟨s3, W5, a1'.trans a5, PostS.after a5 q1⟩
        | ct => exact fun σ5 W5 H5 a5 => ⟨s3, W5, a1'.trans a5, PostS.after a5 q1⟩
        | bk => exact q1
        | rt d => exact q1
        | ro o => exact q1
end
end Mv

set_option Elab.async false
set_option linter.all false
set_option maxRecDepth 100000
set_option maxHeartbeats 2000000
/-! Mv10: comprehensions, raise, try, a def's whole. -/
namespace Mv
open PySem PySem.Spec PyProof.Rows L2

/-! ### comprehensions -/
def wipeS (s : S) : List Nat → S
  | [] => s
  | v :: vs => (wipeS s vs).set v .no
theorem wipeS_length (s : S) : ∀ vs : List Nat, (wipeS s vs).length = s.length
  | [] => rfl
  | v :: vs => by unfold wipeS; rw [List.length_set, wipeS_length s vs]
theorem wipeS_get {s : S} {i : Nat} : ∀ {vs : List Nat} {sl : Sl}, (wipeS s vs)[i]? = some sl → sl = .no ∨ (i ∉ vs ∧ s[i]? = some sl)
  | [], sl, h => .inr ⟨by simp, h⟩
  | v :: vs, sl, h => by
    unfold wipeS at h
    by_cases hi : v = i
    · subst hi
      by_cases hv : v < (wipeS s vs).length
      · rw [List.getElem?_set_self hv] at h; cases h; exact .inl rfl
      · rw [List.getElem?_eq_none (by simpa using hv)] at h; cases h
    · rw [List.getElem?_set_ne hi] at h
      rcases wipeS_get h with z | ⟨z1, z2⟩
      · exact .inl z
      · exact .inr ⟨by simp only [List.mem_cons, not_or]; exact ⟨fun e => hi e.symm, z1⟩, z2⟩
section
variable {G : En} {W H : Hp} {σ σ2 : L2.St} {s : S} {vs : List Nat}
theorem wipe_rel (r : RelS G W H σ s) : RelS G W H (wipe σ vs) (wipeS s vs) := by
  have get : ∀ (i : Nat) (sl : Sl), (wipeS s vs)[i]? = some sl → sl ≠ .no → s[i]? = some sl ∧ (wipe σ vs)[i]? = σ[i]? := fun i sl e n => by
    rcases wipeS_get e with z | ⟨z1, z2⟩
    · exact absurd z n
    · exact ⟨z2, wipe_out z1⟩
  refine ⟨r.sub, r.tabs, by rw [wipeS_length, wipe_length]; exact r.len, fun i sl e => ?_, fun i j o o' a e1 e2 e3 e4 => ?_⟩
  · cases sl with
    | no => trivial
    | fz d =>
      obtain ⟨g1, g2⟩ := get i _ e (fun z => nomatch z)
      rw [g2]; exact r.at_ i _ g1
    | ow d =>
      obtain ⟨g1, g2⟩ := get i _ e (fun z => nomatch z)
      rw [g2]; exact r.at_ i _ g1
  · obtain ⟨g1, g2⟩ := get i _ e1 (fun z => nomatch z)
    obtain ⟨g3, g4⟩ := get j _ e2 (fun z => nomatch z)
    rw [g2] at e3
    rw [g4] at e4
    exact r.inj i j o o' a g1 g3 e3 e4
theorem wipe_own {a : Addr} (h : Own (wipeS s vs) (wipe σ vs) a) : Own s σ a := by
  obtain ⟨i, o, e1, e2⟩ := h
  rcases wipeS_get e1 with z | ⟨z1, z2⟩
  · cases z
  · rw [wipe_out z1] at e2
    exact ⟨i, o, z2, e2⟩
/-- back from a turn: σ2 is σ but for the comprehension's own names -/
theorem unwipe_rel (hw : wipe σ2 vs = wipe σ vs) (r : RelS G W H σ2 s) : RelS G W H σ (wipeS s vs) := by
  have len : σ2.length = σ.length := by rw [← wipe_length σ2 vs, hw, wipe_length]
  have get : ∀ (i : Nat) (sl : Sl), (wipeS s vs)[i]? = some sl → sl ≠ .no → s[i]? = some sl ∧ σ[i]? = σ2[i]? := fun i sl e n => by
    rcases wipeS_get e with z | ⟨z1, z2⟩
    · exact absurd z n
    · refine ⟨z2, ?_⟩
      rw [← wipe_out (σ := σ) z1, ← hw, wipe_out z1]
  refine ⟨r.sub, r.tabs, by rw [wipeS_length, r.len, len], fun i sl e => ?_, fun i j o o' a e1 e2 e3 e4 => ?_⟩
  · cases sl with
    | no => trivial
    | fz d =>
      obtain ⟨g1, g2⟩ := get i _ e (fun z => nomatch z)
      rw [g2]; exact r.at_ i _ g1
    | ow d =>
      obtain ⟨g1, g2⟩ := get i _ e (fun z => nomatch z)
      rw [g2]; exact r.at_ i _ g1
  · obtain ⟨g1, g2⟩ := get i _ e1 (fun z => nomatch z)
    obtain ⟨g3, g4⟩ := get j _ e2 (fun z => nomatch z)
    rw [g2] at e3
    rw [g4] at e4
    exact r.inj i j o o' a g1 g3 e3 e4
theorem unwipe_own (hw : wipe σ2 vs = wipe σ vs) {a : Addr} (h : Own (wipeS s vs) σ a) : Own s σ2 a := by
  obtain ⟨i, o, e1, e2⟩ := h
  rcases wipeS_get e1 with z | ⟨z1, z2⟩
  · cases z
  · refine ⟨i, o, z2, ?_⟩
    rw [← wipe_out (σ := σ2) z1, hw, wipe_out z1]
    exact e2
end
/-- nothing may be raised -/
def R.nox {α : Type} : R α → R α
  | .ok a s => .ok a s
  | _ => .bad
@[simp] theorem R.nox_ok {α : Type} (a : α) (s : S) : (R.ok a s).nox = .ok a s := rfl
@[simp] theorem R.nox_ex {α : Type} (c : Str) (d : D) (s : S) : (R.ex c d s : R α).nox = .bad := rfl
@[simp] theorem R.nox_bad {α : Type} : (R.bad : R α).nox = .bad := rfl
def lcGo (vs : List Nat) (st : D → S → Option S) (c : M Bool) (e : M D) : List D → S → R (List D)
  | [], s => .ok [] s
  | d :: ds, s => match st d (wipeS s vs) with
    | none => .bad
    | some s1 => (c s1).nox.bind fun b s2 => if b = true then (e s2).nox.bind fun y s3 => (lcGo vs st c e ds (wipeS s3 vs)).bind fun ys s4 => .ok (y :: ys) s4 else lcGo vs st c e ds (wipeS s2 vs)
def lcEnd (zs : List D) (s : S) : R MO := if zs.length ≤ sizeLine then .ok (.lst zs) s else .bad
def mLc (vs : List Nat) (mi : M (List D)) (st : D → S → Option S) (c : M Bool) (e : M D) : M MO := fun s => (mi s).bind fun ds s => (lcGo vs st c e ds s).nox.bind lcEnd
/-- two clauses -/
def lcGo2 (vs : List Nat) (st : D → S → Option S) (c : M Bool) (inner : M (List D)) : List D → S → R (List D)
  | [], s => .ok [] s
  | d :: ds, s => match st d (wipeS s vs) with
    | none => .bad
    | some s1 => (c s1).nox.bind fun b s2 => if b = true then (inner s2).nox.bind fun ys s3 => (lcGo2 vs st c inner ds (wipeS s3 vs)).bind fun zs s4 => .ok (ys ++ zs) s4 else lcGo2 vs st c inner ds (wipeS s2 vs)
def lcIn (vs1 : List Nat) (mi1 : M (List D)) (st1 : D → S → Option S) (c1 : M Bool) (e : M D) : M (List D) := fun s => (mi1 s).nox.bind fun ds s => lcGo vs1 st1 c1 e ds s
def mLc2 (vs vs1 : List Nat) (mi : M (List D)) (st : D → S → Option S) (c : M Bool) (mi1 : M (List D)) (st1 : D → S → Option S) (c1 : M Bool) (e : M D) : M MO := fun s => (mi s).bind fun ds s => (lcGo2 vs st c (lcIn vs1 mi1 st1 c1 e) ds s).nox.bind lcEnd
def mYes : M Bool := fun s => .ok true s
/-- a clause's tests -/
structure MTs (T : List (Addr × Str)) (X : Cx) (W0 : WX) (ifs : List Expr) (m : M Bool) : Prop where
  ex : ∃ t : TT, PTs X ifs t ∧ ∀ σ W H s Q, RelS (X.G T) W H σ s → Post (X.G T) W0 s σ W H (m s) (fun b _ _ H' => Q b H') → t σ H Q
/-- a clause's target: nothing but the names in vs is stored -/
structure MGc (T : List (Addr × Str)) (X : Cx) (vs : List Nat) (tg : Expr) (st : D → S → Option S) : Prop where
  ex : ∃ g : TG, PG X tg g ∧ ∀ σ W H s v d s' Q, RelS (X.G T) W H σ s → Rep (X.G T) W v d → st d s = some s' → (∀ σ', AftS (X.G T) [] s σ W H s' σ' W H → (∀ a, Own s' σ' a → Own s σ a) → wipe σ' vs = wipe σ vs → Q σ' H) → g v σ H Q
/-- what the whole takes of its parts: the canonical readings -/
def tMD (G : En) (W0 : WX) (m : M D) : TE := fun σ H Q => ∃ s W, RelS G W H σ s ∧ Post G W0 s σ W H (m s) (KD G Q)
def tMT (G : En) (W0 : WX) (m : M Bool) : TT := fun σ H Q => ∃ s W, RelS G W H σ s ∧ Post G W0 s σ W H (m s) (fun b _ _ H' => Q b H')
def tMS (G : En) (W0 : WX) (fx : List Nat) (m : M Fl) : TS := fun D σ H => ∃ s W, RelS G W H σ s ∧ PostS G W0 fx s σ W H (m s) D
def tMG (G : En) (vs : List Nat) (st : D → S → Option S) : TG := fun v σ H Q => ∃ s W d s', RelS G W H σ s ∧ Rep G W v d ∧ st d s = some s' ∧ (∀ σ', AftS G [] s σ W H s' σ' W H → (∀ a, Own s' σ' a → Own s σ a) → wipe σ' vs = wipe σ vs → Q σ' H)
section
variable {T : List (Addr × Str)} {X : Cx} {W0 : WX} {fx : List Nat} {e : Expr} {pos : Pos}
theorem MD.can {m : M D} (h : MD T X W0 e m) : PE X e (tMD (X.G T) W0 m) := by
  obtain ⟨t, p, h⟩ := h.ex
  exact ⟨fun pins s σ H Q I ⟨s', W, r, q⟩ => p.run pins s σ H Q I (h σ W H s' Q r q)⟩
theorem MTs.can {ifs : List Expr} {m : M Bool} (h : MTs T X W0 ifs m) : PTs X ifs (tMT (X.G T) W0 m) := by
  obtain ⟨t, p, h⟩ := h.ex
  exact ⟨fun pins s σ H Q I ⟨s', W, r, q⟩ => p.run pins s σ H Q I (h σ W H s' Q r q)⟩
theorem MSs.can {sts : List Stmt} {m : M Fl} (h : MSs T X W0 fx sts m) : PSs X sts (tMS (X.G T) W0 fx m) := by
  obtain ⟨t, p, h⟩ := h.ex
  exact ⟨fun pins s σ H D I ⟨s', W, r, q⟩ => p.run pins s σ H D I (h σ W H s' D r q)⟩
theorem MGc.can {vs : List Nat} {tg : Expr} {st : D → S → Option S} (h : MGc T X vs tg st) : PG X tg (tMG (X.G T) vs st) := by
  obtain ⟨g, p, h⟩ := h.ex
  exact ⟨fun pins s σ H v u Q I rv ⟨s', W, d, s2, r, hv, e, q⟩ => p.run pins s σ H v u Q I rv (h σ W H s' v d s2 Q r hv e q)⟩
theorem mts_nil : MTs T X W0 [] mYes := ⟨_, pts_nil, fun σ W H s Q r q => Post.here r q⟩
theorem mts_one {m : M Bool} (h : MT T X W0 e m) : MTs T X W0 [e] m := by
  obtain ⟨t, p, h⟩ := h.ex
  exact ⟨t, pts_one p, h⟩
theorem wipe_at {τ : L2.St} {j : Nat} : ∀ {us : List Nat}, j ∈ us → (wipe τ us)[j]? = if j < τ.length then some none else none
  | [], z => by cases z
  | u :: us, z => by
    unfold wipe
    by_cases hu : u = j
    · subst hu
      by_cases hl : u < τ.length
      · rw [List.getElem?_set_self (by rw [wipe_length]; exact hl), if_pos hl]
      · rw [List.getElem?_eq_none (by rw [List.length_set, wipe_length]; omega), if_neg hl]
    · rw [List.getElem?_set_ne hu]
      exact wipe_at ((List.mem_cons.mp z).elim (fun q => absurd q.symm hu) id)
theorem wipe_eq {σ τ : L2.St} {vs : List Nat} (hl : σ.length = τ.length) (h : ∀ j, j ∉ vs → σ[j]? = τ[j]?) : wipe σ vs = wipe τ vs := by
  apply List.ext_getElem?
  intro j
  by_cases hj : j ∈ vs
  · rw [wipe_at hj, wipe_at hj, hl]
  · rw [wipe_out hj, wipe_out hj, h j hj]
theorem wipe_wipe {σ : L2.St} {vs : List Nat} : wipe (wipe σ vs) vs = wipe σ vs := wipe_eq (wipe_length _ _) fun j hj => wipe_out hj
theorem wipe_set {σ : L2.St} {i : Nat} {x : Option V} {vs : List Nat} (h : i ∈ vs) : wipe (σ.set i x) vs = wipe σ vs :=
  wipe_eq (by simp) fun j hj => List.getElem?_set_ne (fun z : i = j => hj (z ▸ h))
theorem mgc_name {i : Nat} {vs : List Nat} {x : Str} (hN : X.N.Nodup) (hi : X.N[i]? = some x) (hx : Loc X.env.scope x) (hv : i ∈ vs) (hfn : X.fn x = true ∨ X.env.scope.names.lookup x = some .local := by first | exact .inl rfl | exact .inr rfl | assumption) : MGc T X vs (.Name x pos) (tgN i) := by
  refine ⟨_, pg_name hN hi hx hfn, fun σ W H s v d s' Q r hd e q => ?_⟩
  cases e
  refine q _ (.set r (by simp) ⟨v, rfl, hd⟩ fun o a z => nomatch z) (fun a ⟨j, o, e1, e2⟩ => ?_) (wipe_set hv)
  by_cases hj : i = j
  · subst hj
    by_cases hl : i < s.length
    · rw [List.getElem?_set_self hl] at e1; cases e1
    · rw [List.getElem?_eq_none (by rw [List.length_set]; omega)] at e1; cases e1
  · rw [List.getElem?_set_ne hj] at e1 e2
    exact ⟨j, o, e1, e2⟩

structure MGcs (T : List (Addr × Str)) (X : Cx) (vs : List Nat) (tgs : List Expr) (st : List D → S → Option S) : Prop where
  ex : ∃ g : TGs, PGs X tgs g ∧ ∀ σ W H s us ds s' Q, RelS (X.G T) W H σ s → Reps (X.G T) W us ds → st ds s = some s' → (∀ σ', AftS (X.G T) [] s σ W H s' σ' W H → (∀ a, Own s' σ' a → Own s σ a) → wipe σ' vs = wipe σ vs → Q σ' H) → g us σ H Q
  len : ∀ ds s s', st ds s = some s' → ds.length = tgs.length
theorem mgcs_nil {vs : List Nat} : MGcs T X vs [] tgs0 := by
  refine ⟨⟨_, pgs_nil, fun σ W H s us ds s' Q r hv e q => ?_⟩, fun ds s s' e => ?_⟩
  · cases hv with
    | nil => cases e; exact ⟨rfl, q _ (.refl r) (fun _ z => z) rfl⟩
    | cons h t => cases e
  · cases ds with
    | nil => rfl
    | cons d ds => cases e
theorem mgcs_cons {vs : List Nat} {e : Expr} {es : List Expr} {t : D → S → Option S} {u : List D → S → Option S} (h : MGc T X vs e t) (h2 : MGcs T X vs es u) (hs : (assignEach (e :: es) X.env).map (·.2) = assign e X.env :: (assignEach es X.env).map (·.2) := by rfl) : MGcs T X vs (e :: es) (tgsC t u) := by
  obtain ⟨g, pg, h⟩ := h.ex
  obtain ⟨⟨g2, pg2, h2⟩, hl⟩ := h2
  refine ⟨⟨_, pgs_cons pg pg2 hs, fun σ W H s us ds s' Q r hv e q => ?_⟩, fun ds s s' e => ?_⟩
  · cases hv with
    | nil => cases e
    | cons hv1 hv2 =>
      rename_i v us d ds
      simp only [tgsC, Option.bind_eq_some_iff] at e
      obtain ⟨s1, e1, e2⟩ := e
      exact ⟨v, us, rfl, h σ W H s v d s1 _ r hv1 e1 fun σ1 a1 o1 w1 => h2 σ1 W H s1 us ds s' Q a1.rel hv2 e2 fun σ2 a2 o2 w2 => q σ2 (a1.trans a2) (fun a z => o1 a (o2 a z)) (w2.trans w1)⟩
  · cases ds with
    | nil => cases e
    | cons d ds =>
      simp only [tgsC, Option.bind_eq_some_iff] at e
      obtain ⟨s1, e1, e2⟩ := e
      rw [List.length_cons, List.length_cons, hl _ _ _ e2]
theorem mgc_tup {vs : List Nat} {es : List Expr} {k : Nat} {u : List D → S → Option S} (hc : X.calm = true) (h : MGcs T X vs es u) (hst : (assignEach es X.env).findIdx? (·.1) = none := by rfl) (hn : (assignEach es X.env).length = es.length := by rfl) : MGc T X vs (.Tuple es k pos) (tgT u) := by
  obtain ⟨⟨g, pg, h⟩, hl⟩ := h
  refine ⟨_, pg_tup hc pg hn hst, fun σ W H s v d s' Q r hv e q => ?_⟩
  unfold tgT at e
  split at e
  · obtain ⟨a, us, rfl, h1, h2⟩ := hv.seqT rfl
    exact ⟨a, us, rfl, sqT_mono r.sub h1, by rw [h2.length]; exact hl _ _ _ e, h σ W H s us _ s' Q r h2 e q⟩
  · obtain ⟨a, us, rfl, h1, h2⟩ := hv.seqT rfl
    exact ⟨a, us, rfl, sqT_mono r.sub h1, by rw [h2.length]; exact hl _ _ _ e, h σ W H s us _ s' Q r h2 e q⟩
  · cases e
theorem R.bind_assoc {α β γ : Type} (m : R α) (f : α → S → R β) (g : β → S → R γ) : (m.bind f).bind g = m.bind fun a s => (f a s).bind g := by
  cases m <;> rfl
theorem MD.of_can {m : M D} (h : PE X e (tMD (X.G T) W0 m)) : MD T X W0 e m := ⟨_, h, fun σ W H s Q r q => ⟨s, W, r, q⟩⟩
/-- within a comprehension: from its beginning to here, at the slots σ' -/
structure Inb (G : En) (s : S) (σ : L2.St) (W H : Hp) (s' : S) (σ' : L2.St) (W' H' : Hp) : Prop where
  stp : Stp (Own s σ) W H W' H'
  rel : RelS G W' H' σ' s'
  own : ∀ a, Own s' σ' a → Own s σ a
theorem Inb.aft {G : En} {s s1 s2 : S} {σ σ1 : L2.St} {W H W1 H1 W2 H2 : Hp} (a : Inb G s σ W H s1 σ1 W1 H1) (b : Aft G s1 σ1 W1 H1 s2 W2 H2) : Inb G s σ W H s2 σ1 W2 H2 :=
  ⟨a.stp.trans b.stp fun x z => .inl (a.own x z), b.rel, fun x z => a.own x (b.own x z)⟩
theorem Inb.out {G : En} {s s1 : S} {σ : L2.St} {W H W1 H1 : Hp} (a : Inb G s σ W H s1 σ W1 H1) : Aft G s σ W H s1 W1 H1 := ⟨a.stp, a.rel, a.own⟩
theorem Inb.put {G : En} {s s' : S} {σ σ' : L2.St} {W H W' H' : Hp} {p : Addr} {u : HO} (a : Inb G s σ W H s' σ' W' H') (r : RelS G W H σ s) (hp : H p = none) (hw : W' p = none) (hl : ∃ av, H' p = some (.lst av)) : Inb G s σ W H s' σ' W' (upd H' p u) := by
  have no : ∀ b, Own s' σ' b → b ≠ p := fun b ho z => by
    subst z
    obtain ⟨u', z1, _⟩ := (a.own b ho).lt r
    rw [hp] at z1; cases z1
  obtain ⟨av, hl⟩ := hl
  refine ⟨⟨a.stp.data, fun b o e n z => ?_, a.stp.fresh, fun b o e => ?_⟩, a.rel.step (fun b o e => ?_) (Same.refl _) (fun b ho => ?_) ⟨tabs_upd a.rel.tabs.t hl rfl (fun φ z => nomatch z), a.rel.tabs.w⟩, a.own⟩
  · rw [upd_ne (ne_of_none e hp)]; exact a.stp.keep b o e n z
  · rw [upd_ne (ne_of_none e hp)]; exact a.stp.there b o e
  · rw [upd_ne (fun z : b = p => by subst z; rw [hw] at e; cases e)]; exact a.rel.sub b o e
  · exact ⟨upd_ne (no b ho), (ho.lt a.rel).elim fun _ z => z.2⟩
/-- the list that is being made -/
structure Mk (G : En) (Dd : Addr) (W' H' : Hp) (ad : List D) : Prop where
  w : W' Dd = none
  h : ∃ av, H' Dd = some (.lst av) ∧ Reps G W' av ad
theorem Mk.aft {G : En} {Dd : Addr} {s s1 : S} {σ : L2.St} {W H W1 H1 : Hp} {ad : List D} (m : Mk G Dd W H ad) (n : ¬ Own s σ Dd) (b : Aft G s σ W H s1 W1 H1) : Mk G Dd W1 H1 ad := by
  obtain ⟨av, h1, h2⟩ := m.h
  exact ⟨b.stp.fresh _ _ h1 m.w n, av, b.stp.keep _ _ h1 n rfl, h2.mono b.stp.data⟩
abbrev WF : WX := fun _ _ _ _ => False
theorem nox_no {α : Type} {m : R α} {c : Str} {d : D} {s : S} (h : m.nox = .ex c d s) : False := by cases m <;> cases h
/-- the turns of a clause whose element is laid: vs, σw: the names and the slots of this clause; k: what comes behind with all that was made -/
theorem lc_walk {G : En} {vs : List Nat} {st : D → S → Option S} {c : M Bool} {e : M D} {σ σw : L2.St} {s0 s1 : S} {W0h H0h W1 H1 : Hp} {J : It} {ds : List D} {Dd : Addr} {ad0 : List D} {k : List D → S → R MO} {Qk : R MO → Prop} {Goal : Hp → Prop}
    (r0 : RelS G W0h H0h σ s0) (hD : H0h Dd = none) (b0 : Inb G s0 σ W0h H0h s1 σw W1 H1) (m0 : Mk G Dd W1 H1 ad0) (hJ : ItOk G J W1 ds) (hbad : Qk .bad → False) (hbig : ∀ zs s, sizeLine < zs.length → Qk (k zs s) → False)
    (q : Qk ((lcGo vs st c e ds s1).nox.bind fun ys s => k (ad0 ++ ys) s))
    (stop : ∀ s' W' H' ad, Inb G s0 σ W0h H0h s' σw W' H' → Mk G Dd W' H' ad → Qk (k ad s') → Goal H') :
    ∃ Wv : Nat → Nat → Hp → Prop, (∃ m, Wv 0 m H1) ∧ ∀ i m H, Wv i m H →
      (J.stop i H ∧ Goal H) ∨ (J.go i H ∧ ∃ Nx : Hp → Prop, (∀ H', Nx H' → ∃ m', m' < m ∧ Wv (i + 1) m' H') ∧ ∀ x H', J.yld i H x H' → tMG G vs st x (wipe σw vs) H' fun σ2 H2 => wipe σ2 vs = wipe σw vs ∧ tMT G WF (fun s => (c s).nox) σ2 H2 fun b H3 =>
        if b = true then tMD G WF (fun s => (e s).nox) σ2 H3 fun y H4 => ∃ acc, H4 Dd = some (.lst acc) ∧ acc.length < sizeLine ∧ Nx (upd H4 Dd (.lst (acc ++ [y]))) else Nx H3) := by
  have nOwn : ∀ {s : S} {τ : L2.St}, (∀ a, Own s τ a → Own s0 σ a) → ¬ Own s τ Dd := fun o z => by
    obtain ⟨u, z1, _⟩ := (o Dd z).lt r0
    rw [hD] at z1; cases z1
  refine ⟨fun i m H' => m = ds.length - i ∧ i ≤ ds.length ∧ ∃ s' W' ad, Inb G s0 σ W0h H0h s' σw W' H' ∧ Same W1 W' ∧ Mk G Dd W' H' ad ∧ Qk ((lcGo vs st c e (ds.drop i) s').nox.bind fun ys s => k (ad ++ ys) s),
    ⟨_, rfl, Nat.zero_le _, s1, W1, ad0, b0, Same.refl _, m0, q⟩, ?_⟩
  rintro i m H' ⟨rfl, hi, s', W', ad, b', sw, m', q'⟩
  obtain ⟨j1, j2⟩ := hJ i W' H' sw b'.rel.sub
  by_cases hl2 : ds.length ≤ i
  · refine .inl ⟨j1 hl2, ?_⟩
    rw [List.drop_eq_nil_of_le hl2] at q'
    have q' : Qk (k (ad ++ []) s') := q'
    rw [List.append_nil] at q'
    exact stop s' W' H' ad b' m' q'
  have hl2 : i < ds.length := by omega
  have ed : ds[i]? = some ds[i] := List.getElem?_eq_getElem hl2
  obtain ⟨j3, j4⟩ := j2 _ ed
  rw [List.drop_eq_getElem_cons hl2] at q'
  unfold lcGo at q'
  refine .inr ⟨j3, fun H2 => ∃ s2 W2 ad2, Inb G s0 σ W0h H0h s2 σw W2 H2 ∧ Same W1 W2 ∧ Mk G Dd W2 H2 ad2 ∧ Qk ((lcGo vs st c e (ds.drop (i + 1)) s2).nox.bind fun ys s => k (ad2 ++ ys) s),
    fun H2 ⟨s2, W2, ad2, z⟩ => ⟨_, by omega, rfl, hl2, s2, W2, ad2, z⟩, fun x H3 y => ?_⟩
  obtain ⟨W3, st3, sub3, rx⟩ := j4 x H3 y
  have a0 := b'.rel.stp0 st3 sub3
  have b3 := b'.aft a0
  have m3 := m'.aft (nOwn b'.own) a0
  cases e1 : st ds[i] (wipeS s' vs) with
  | none => simp only [e1] at q'; exact (hbad q').elim
  | some s2 =>
    simp only [e1] at q'
    refine ⟨wipeS s' vs, W3, _, s2, wipe_rel b3.rel, rx, e1, fun σ2 a2 o2 wq => ⟨wq.trans wipe_wipe, s2, W3, a2.rel, ?_⟩⟩
    have wq : wipe σ2 vs = wipe σw vs := wq.trans wipe_wipe
    have own2 : ∀ a, Own s2 σ2 a → Own s0 σ a := fun a z => b3.own a (wipe_own (o2 a z))
    have b4 : Inb G s0 σ W0h H0h s2 σ2 W3 H3 := ⟨b3.stp, a2.rel, own2⟩
    have back : ∀ {s4 W4 H4}, Inb G s0 σ W0h H0h s4 σ2 W4 H4 → Inb G s0 σ W0h H0h (wipeS s4 vs) σw W4 H4 := fun {s4 W4 H4} b =>
      ⟨b.stp, unwipe_rel wq b.rel, fun a z => b.own a (unwipe_own wq z)⟩
    have sw3 : Same W1 W3 := sw.trans st3.data
    show Post G WF s2 σ2 W3 H3 ((c s2).nox) _
    cases ec : (c s2).nox with
    | bad => simp only [ec] at q'; exact hbad q'
    | ex x y z => exact (nox_no ec).elim
    | ok b s3 =>
      simp only [ec, R.bind_ok] at q'
      intro W4 H4 a4
      have m4 := m3.aft (nOwn own2) a4
      have b5 := b4.aft a4
      cases b with
      | false =>
        simp only [if_neg Bool.false_ne_true] at q' ⊢
        exact ⟨wipeS s3 vs, W4, ad, back b5, sw3.trans a4.stp.data, m4, q'⟩
      | true =>
        simp only [if_true] at q' ⊢
        refine ⟨s3, W4, a4.rel, ?_⟩
        show Post G WF s3 σ2 W4 H4 ((e s3).nox) _
        cases ee : (e s3).nox with
        | bad => simp only [ee] at q'; exact hbad q'
        | ex x y z => exact (nox_no ee).elim
        | ok d s5 =>
          simp only [ee, R.bind_ok] at q'
          intro W5 H5 a5 v hv
          have m5 := m4.aft (nOwn b5.own) a5
          have b6 := b5.aft a5
          have q5 : Qk ((lcGo vs st c e (ds.drop (i + 1)) (wipeS s5 vs)).nox.bind fun ys s => k ((ad ++ [d]) ++ ys) s) := by
            cases el : lcGo vs st c e (ds.drop (i + 1)) (wipeS s5 vs) with
            | bad => rw [el] at q'; exact q'
            | ex x y z => rw [el] at q'; exact q'
            | ok ys s6 =>
              rw [el] at q'
              simpa using q'
          obtain ⟨av, h1, h2⟩ := m5.h
          have len : av.length < sizeLine := by
            rw [h2.length]
            cases el : (lcGo vs st c e (ds.drop (i + 1)) (wipeS s5 vs)).nox with
            | bad => rw [el] at q5; exact (hbad q5).elim
            | ex x y z => exact (nox_no el).elim
            | ok ys s6 =>
              rw [el] at q5
              by_cases hz : sizeLine < ((ad ++ [d]) ++ ys).length
              · exact (hbig _ _ hz q5).elim
              · simp at hz; omega
          exact ⟨av, h1, len, wipeS s5 vs, W5, ad ++ [d], (back b6).put r0 hD m5.w ⟨av, h1⟩, (sw3.trans a4.stp.data).trans a5.stp.data, ⟨m5.w, av ++ [v], upd_same, h2.append (.cons hv .nil)⟩, q5⟩
theorem lcEnd_big {G : En} {W0 : WX} {s0 : S} {σ : L2.St} {W H : Hp} {Q : VK} (zs : List D) (s : S) (h : sizeLine < zs.length) (q : Post G W0 s0 σ W H (lcEnd zs s) (KF G H Q)) : False := by
  unfold lcEnd at q
  rw [if_neg (by omega)] at q
  exact q
/-- the end: all is laid -/
theorem lcEnd_ok {G : En} {W0 : WX} {s0 s' : S} {σ : L2.St} {W H W' H' : Hp} {Q : VK} {Dd : Addr} {ad : List D} (hD : H Dd = none) (b : Inb G s0 σ W H s' σ W' H') (m : Mk G Dd W' H' ad) (q : Post G W0 s0 σ W H (lcEnd ad s') (KF G H Q)) : Q (.ref Dd) H' := by
  unfold lcEnd at q
  split at q
  · obtain ⟨av, h1, h2⟩ := m.h
    exact q W' H' b.out Dd _ hD h1 m.w (.lst h2)
  · exact q.elim
theorem MD.nox {m : M D} (h : MD T X WF e m) : MD T X W0 e (fun s => (m s).nox) := by
  obtain ⟨t, p, h⟩ := h.ex
  refine ⟨t, p, fun σ W H s Q r q => h σ W H s Q r ?_⟩
  have q : Post (X.G T) W0 s σ W H ((m s).nox) (KD (X.G T) Q) := q
  cases em : m s with
  | bad => rw [em] at q; exact q
  | ex c d s' => rw [em] at q; exact q.elim
  | ok d s' => rw [em] at q; exact q
theorem MTs.nox {ifs : List Expr} {m : M Bool} (h : MTs T X WF ifs m) : MTs T X W0 ifs (fun s => (m s).nox) := by
  obtain ⟨t, p, h⟩ := h.ex
  refine ⟨t, p, fun σ W H s Q r q => h σ W H s Q r ?_⟩
  have q : Post (X.G T) W0 s σ W H ((m s).nox) (fun b _ _ H' => Q b H') := q
  cases em : m s with
  | bad => rw [em] at q; exact q
  | ex c d s' => rw [em] at q; exact q.elim
  | ok d s' => rw [em] at q; exact q
/-- the parts of a clause in the block -/
abbrev Blk (X : Cx) (P : Cx → Prop) (scope : Scope) : Prop := ∀ (s : Shared) (H : Hp) (C : Addr) (cl : List (Str × Addr)) (fp : List Addr), P (X.blk s H scope (compEnvC scope cl C X.env) fp)
theorem lc_reads {mi : M (List D)} {vs : List Nat} {st : D → S → Option S} {mc : M Bool} {me : M D} {G : En} {W0 : WX} {σ : L2.St} {W H : Hp} {s : S} {Q : VK} (q : Post G W0 s σ W H (mLc vs mi st mc me s) (KF G H Q)) :
    Post G W0 s σ W H (mi s) fun ds _ W1 H1 => ∀ J, ItOk G J W1 ds → ∀ Dd, H1 Dd = none → ∃ Wv : Nat → Nat → Hp → Prop, (∃ m, Wv 0 m (upd H1 Dd (.lst []))) ∧ ∀ i m H, Wv i m H →
      (J.stop i H ∧ Q (.ref Dd) H) ∨ (J.go i H ∧ ∃ Nx : Hp → Prop, (∀ H', Nx H' → ∃ m', m' < m ∧ Wv (i + 1) m' H') ∧ ∀ x H', J.yld i H x H' → tMG G vs st x (wipe σ vs) H' fun σ2 H2 => wipe σ2 vs = wipe σ vs ∧ tMT G WF (fun s => (mc s).nox) σ2 H2 fun b H3 =>
        if b = true then tMD G WF (fun s => (me s).nox) σ2 H3 fun y H4 => ∃ acc, H4 Dd = some (.lst acc) ∧ acc.length < sizeLine ∧ Nx (upd H4 Dd (.lst (acc ++ [y]))) else Nx H3) := by
  have q : Post G W0 s σ W H ((mi s).bind fun ds s => (lcGo vs st mc me ds s).nox.bind lcEnd) (KF G H Q) := q
  cases em : mi s with
  | bad => rw [em] at q; exact q
  | ex x y z => rw [em] at q; exact q
  | ok ds s1 =>
    rw [em] at q
    intro W1 H1 a1 J hJ Dd hD
    have q : Post G W0 s1 σ W1 H1 ((lcGo vs st mc me ds s1).nox.bind lcEnd) (KF G H1 Q) := (Post.after a1 q).imp fun o s' W' H' af z p u h1 h2 h3 h4 => z p u (a1.stp.back h1) h2 h3 h4
    exact lc_walk (Qk := fun m => Post G W0 s1 σ W1 H1 m (KF G H1 Q)) (k := lcEnd) (Goal := fun H => Q (.ref Dd) H) (ad0 := []) a1.rel hD ⟨.own hD, a1.rel.newO hD, fun _ z => z⟩ ⟨a1.rel.sub.free hD, [], upd_same, .nil⟩ hJ id (fun zs s h z => lcEnd_big zs s h z) (by simpa using q)
      fun s' W' H' ad b m z => lcEnd_ok hD b m z
section
variable {elt tg iter tg1 iter1 : Expr} {ifs ifs1 : List Expr} {scope : Scope} {own : List (Str × Nat)} {vs1 : List Nat} {mi mi1 : M (List D)} {st st1 : D → S → Option S} {mc mc1 : M Bool} {me : M D}
/-- [e for target in iter if ..] -/
theorem mf_lc (hc : X.calm = true) (hN : X.N.Nodup) (hi : MI T X W0 tg iter mi) (ok : BlkOk X.N X.env.scope scope own)
    (hg : Blk X (fun Y => MGc T Y (own.map (·.2)) tg st) scope) (ht : Blk X (fun Y => MTs T Y WF ifs mc) scope) (he : Blk X (fun Y => MD T Y WF elt me) scope) (hs : ∀ x, foldedSetIterable iter X.env x = pure x := by intro _; rfl) :
    MF T X W0 (.ListComp elt [⟨tg, iter, ifs, 0⟩] scope pos) (mLc (own.map (·.2)) mi st mc me) := by
  obtain ⟨wi, pi, hi⟩ := hi.ex
  refine ⟨_, pe_lc (g := tMG (X.G T) (own.map (·.2)) st) (tt := tMT (X.G T) WF (fun s => (mc s).nox)) (te := tMD (X.G T) WF (fun s => (me s).nox)) hc hN pi ok (fun s H C cl fp => (hg s H C cl fp).can) (fun s H C cl fp => (ht s H C cl fp).nox.can) (fun s H C cl fp => (he s H C cl fp).nox.can) hs, fun σ W H s Q r q => ?_⟩
  exact hi σ W H s _ r (lc_reads q)
/-- what was laid becomes data -/
theorem asD_post {G : En} {s : S} {σ : L2.St} {W H : Hp} {m : M MO} {Q : VK} (r : RelS G W H σ s) (q : Post G W0 s σ W H (asD m s) (KD G Q)) : Post G W0 s σ W H (m s) (KF G H Q) := by
  have q : Post G W0 s σ W H ((m s).bind fun o s => .ok o.d s) (KD G Q) := q
  cases em : m s with
  | bad => rw [em] at q; exact q
  | ex c d s1 => rw [em] at q; exact q
  | ok o s1 =>
    rw [em] at q
    intro W1 H1 a1 p u hp hu hw ho
    have no : ¬ Own s1 σ p := fun z => by
      obtain ⟨u', z1, _⟩ := (a1.own p z).lt r
      rw [hp] at z1; cases z1
    have data : Same W1 (upd W1 p u) := fun b o e => by
      by_cases hb : b = p
      · subst hb; rw [hw] at e; cases e
      · rw [upd_ne hb]; exact e
    refine q (upd W1 p u) H1 ⟨⟨a1.stp.data.trans data, a1.stp.keep, fun a o e w n => ?_, a1.stp.there⟩, a1.rel.frz hu hw no ho.notTbl, a1.own⟩ _ ((ho.mono data).rep upd_same)
    rw [upd_ne (ne_of_none e hp)]
    exact a1.stp.fresh a o e w n
theorem set_post {G : En} {i : Nat} {m : R D} {σ : L2.St} {W H : Hp} {s : S} {D : Ends} (hf : i ∉ fx) (q : PostS G W0 fx s σ W H (m.bind fun d s => .ok .nx (s.set i (.fz d))) D) : Post G W0 s σ W H m (KD G fun v H' => D.nx (σ.set i (some v)) H') :=
  (PostS.bind q).imp fun d s1 W1 H1 a1 q1 v hv => q1 _ W1 H1 (.set a1.rel hf ⟨v, rfl, hv⟩ fun o a z => nomatch z)
/-- y = [e for ..]: data; an own list -/
theorem ms_lc (i : Nat) {y : Str} {py spos : Pos} (hc : X.calm = true) (hN : X.N.Nodup) (hi : MI T X W0 tg iter mi) (ok : BlkOk X.N X.env.scope scope own)
    (hg : Blk X (fun Y => MGc T Y (own.map (·.2)) tg st) scope) (ht : Blk X (fun Y => MTs T Y WF ifs mc) scope) (he : Blk X (fun Y => MD T Y WF elt me) scope)
    (hsw : swapsWith (.ListComp elt [⟨tg, iter, ifs, 0⟩] scope pos) (some (.Name y py)) spos.line X.env = pure true) (hy : X.N[i]? = some y := by rfl) (hyl : X.env.scope.names.lookup y = some .local := by rfl) (hf : i ∉ fx := by decide) (hs : ∀ x, foldedSetIterable iter X.env x = pure x := by intro _; rfl) :
    MS T X W0 fx (.Assign [.Name y py] (.ListComp elt [⟨tg, iter, ifs, 0⟩] scope pos) spos) (mSet i (asD (mLc (own.map (·.2)) mi st mc me))) := by
  obtain ⟨wi, pi, hi⟩ := hi.ex
  refine ⟨_, ps_setLc (g := tMG (X.G T) (own.map (·.2)) st) (tt := tMT (X.G T) WF (fun s => (mc s).nox)) (te := tMD (X.G T) WF (fun s => (me s).nox)) hc hN hy hyl hsw pi ok (fun s H C cl fp => (hg s H C cl fp).can) (fun s H C cl fp => (ht s H C cl fp).nox.can) (fun s H C cl fp => (he s H C cl fp).nox.can) hs, fun σ W H s D r q => ?_⟩
  exact hi σ W H s _ r (lc_reads (asD_post r (set_post hf q)))
theorem ms_lcO (i : Nat) {y : Str} {py spos : Pos} (hc : X.calm = true) (hN : X.N.Nodup) (hi : MI T X W0 tg iter mi) (ok : BlkOk X.N X.env.scope scope own)
    (hg : Blk X (fun Y => MGc T Y (own.map (·.2)) tg st) scope) (ht : Blk X (fun Y => MTs T Y WF ifs mc) scope) (he : Blk X (fun Y => MD T Y WF elt me) scope)
    (hsw : swapsWith (.ListComp elt [⟨tg, iter, ifs, 0⟩] scope pos) (some (.Name y py)) spos.line X.env = pure true) (hy : X.N[i]? = some y := by rfl) (hyl : X.env.scope.names.lookup y = some .local := by rfl) (hf : i ∉ fx := by decide) (hs : ∀ x, foldedSetIterable iter X.env x = pure x := by intro _; rfl) :
    MS T X W0 fx (.Assign [.Name y py] (.ListComp elt [⟨tg, iter, ifs, 0⟩] scope pos) spos) (mSetO i (mLc (own.map (·.2)) mi st mc me)) := by
  obtain ⟨wi, pi, hi⟩ := hi.ex
  refine ⟨_, ps_setLc (g := tMG (X.G T) (own.map (·.2)) st) (tt := tMT (X.G T) WF (fun s => (mc s).nox)) (te := tMD (X.G T) WF (fun s => (me s).nox)) hc hN hy hyl hsw pi ok (fun s H C cl fp => (hg s H C cl fp).can) (fun s H C cl fp => (ht s H C cl fp).nox.can) (fun s H C cl fp => (he s H C cl fp).nox.can) hs, fun σ W H s D r q => ?_⟩
  exact hi σ W H s _ r (lc_reads (setO_ok r hf q))
end
end
end Mv

set_option Elab.async false
set_option linter.all false
set_option maxRecDepth 100000
set_option maxHeartbeats 2000000
/-! Mv11: comprehensions of two clauses, raise, try, a def's whole. -/
namespace Mv
open PySem PySem.Spec PyProof.Rows L2

def tMI (G : En) (W0 : WX) (m : M (List D)) : TI := fun σ H Rr => ∃ s W, RelS G W H σ s ∧ Post G W0 s σ W H (m s) (fun ds _ W' H' => ∀ J, ItOk G J W' ds → Rr J H')
section
variable {T : List (Addr × Str)} {X : Cx} {W0 : WX} {fx : List Nat} {e : Expr} {pos : Pos}
theorem MI.can {tg : Expr} {m : M (List D)} (h : MI T X W0 tg e m) : PI X tg e (tMI (X.G T) W0 m) := by
  obtain ⟨t, p, h⟩ := h.ex
  exact ⟨fun pins s σ H Rr I ⟨s', W, r, q⟩ => p.run pins s σ H Rr I (h σ W H s' Rr r q)⟩
theorem MI.nox {tg : Expr} {m : M (List D)} (h : MI T X WF tg e m) : MI T X W0 tg e (fun s => (m s).nox) := by
  obtain ⟨t, p, h⟩ := h.ex
  refine ⟨t, p, fun σ W H s Rr r q => h σ W H s Rr r ?_⟩
  have q : Post (X.G T) W0 s σ W H ((m s).nox) _ := q
  cases em : m s with
  | bad => rw [em] at q; exact q
  | ex c d s' => rw [em] at q; exact q.elim
  | ok d s' => rw [em] at q; exact q
theorem lc2_walk {G : En} {vs vs1 : List Nat} {st st1 : D → S → Option S} {c c1 : M Bool} {mi1 : M (List D)} {e : M D} {σ : L2.St} {s0 : S} {W0h H0h : Hp} {J : It} {ds : List D} {Dd : Addr} {Qk : R MO → Prop} {Goal : Hp → Prop}
    (r0 : RelS G W0h H0h σ s0) (hD : H0h Dd = none) (hJ : ItOk G J W0h ds) (hbad : Qk .bad → False) (hbig : ∀ zs s, sizeLine < zs.length → Qk (lcEnd zs s) → False)
    (q : Qk ((lcGo2 vs st c (lcIn vs1 mi1 st1 c1 e) ds s0).nox.bind lcEnd))
    (stop : ∀ s' W' H' ad, Inb G s0 σ W0h H0h s' σ W' H' → Mk G Dd W' H' ad → Qk (lcEnd ad s') → Goal H') :
    ∃ Wv : Nat → Nat → Hp → Prop, (∃ m, Wv 0 m (upd H0h Dd (.lst []))) ∧ ∀ i m H, Wv i m H →
      (J.stop i H ∧ Goal H) ∨ (J.go i H ∧ ∃ Nx : Hp → Prop, (∀ H', Nx H' → ∃ m', m' < m ∧ Wv (i + 1) m' H') ∧ ∀ x H', J.yld i H x H' → tMG G vs st x (wipe σ vs) H' fun σ2 H2 => wipe σ2 vs = wipe σ vs ∧ tMT G WF (fun s => (c s).nox) σ2 H2 fun b H3 =>
        if b = true then tMI G WF (fun s => (mi1 s).nox) σ2 H3 fun J1 H4 => ∃ W1 : Nat → Nat → Hp → Prop, (∃ m, W1 0 m H4) ∧ ∀ j k H, W1 j k H →
          (J1.stop j H ∧ Nx H) ∨ (J1.go j H ∧ ∃ Nx1 : Hp → Prop, (∀ H', Nx1 H' → ∃ k', k' < k ∧ W1 (j + 1) k' H') ∧ ∀ x H', J1.yld j H x H' → tMG G vs1 st1 x (wipe σ2 vs1) H' fun σ3 H5 => wipe σ3 vs1 = wipe σ2 vs1 ∧ tMT G WF (fun s => (c1 s).nox) σ3 H5 fun b H6 =>
            if b = true then tMD G WF (fun s => (e s).nox) σ3 H6 fun y H7 => ∃ acc, H7 Dd = some (.lst acc) ∧ acc.length < sizeLine ∧ Nx1 (upd H7 Dd (.lst (acc ++ [y]))) else Nx1 H6)
        else Nx H3) := by
  have nOwn : ∀ {s : S} {τ : L2.St}, (∀ a, Own s τ a → Own s0 σ a) → ¬ Own s τ Dd := fun o z => by
    obtain ⟨u, z1, _⟩ := (o Dd z).lt r0
    rw [hD] at z1; cases z1
  refine ⟨fun i m H' => m = ds.length - i ∧ i ≤ ds.length ∧ ∃ s' W' ad, Inb G s0 σ W0h H0h s' σ W' H' ∧ Same W0h W' ∧ Mk G Dd W' H' ad ∧ Qk ((lcGo2 vs st c (lcIn vs1 mi1 st1 c1 e) (ds.drop i) s').nox.bind fun ys s => lcEnd (ad ++ ys) s),
    ⟨_, rfl, Nat.zero_le _, s0, W0h, [], ⟨.own hD, r0.newO hD, fun _ z => z⟩, Same.refl _, ⟨r0.sub.free hD, [], upd_same, .nil⟩, by simpa using q⟩, ?_⟩
  rintro i m H' ⟨rfl, hi, s', W', ad, b', sw, m', q'⟩
  obtain ⟨j1, j2⟩ := hJ i W' H' sw b'.rel.sub
  by_cases hl2 : ds.length ≤ i
  · refine .inl ⟨j1 hl2, ?_⟩
    rw [List.drop_eq_nil_of_le hl2] at q'
    have q' : Qk (lcEnd (ad ++ []) s') := q'
    rw [List.append_nil] at q'
    exact stop s' W' H' ad b' m' q'
  have hl2 : i < ds.length := by omega
  have ed : ds[i]? = some ds[i] := List.getElem?_eq_getElem hl2
  obtain ⟨j3, j4⟩ := j2 _ ed
  rw [List.drop_eq_getElem_cons hl2] at q'
  unfold lcGo2 at q'
  refine .inr ⟨j3, fun H2 => ∃ s2 W2 ad2, Inb G s0 σ W0h H0h s2 σ W2 H2 ∧ Same W0h W2 ∧ Mk G Dd W2 H2 ad2 ∧ Qk ((lcGo2 vs st c (lcIn vs1 mi1 st1 c1 e) (ds.drop (i + 1)) s2).nox.bind fun ys s => lcEnd (ad2 ++ ys) s),
    fun H2 ⟨s2, W2, ad2, z⟩ => ⟨_, by omega, rfl, hl2, s2, W2, ad2, z⟩, fun x H3 y => ?_⟩
  obtain ⟨W3, st3, sub3, rx⟩ := j4 x H3 y
  have a0 := b'.rel.stp0 st3 sub3
  have b3 := b'.aft a0
  have m3 := m'.aft (nOwn b'.own) a0
  cases e1 : st ds[i] (wipeS s' vs) with
  | none => simp only [e1] at q'; exact (hbad q').elim
  | some s2 =>
    simp only [e1] at q'
    refine ⟨wipeS s' vs, W3, _, s2, wipe_rel b3.rel, rx, e1, fun σ2 a2 o2 wq => ⟨wq.trans wipe_wipe, s2, W3, a2.rel, ?_⟩⟩
    have wq : wipe σ2 vs = wipe σ vs := wq.trans wipe_wipe
    have own2 : ∀ a, Own s2 σ2 a → Own s0 σ a := fun a z => b3.own a (wipe_own (o2 a z))
    have b4 : Inb G s0 σ W0h H0h s2 σ2 W3 H3 := ⟨b3.stp, a2.rel, own2⟩
    have back : ∀ {s4 W4 H4}, Inb G s0 σ W0h H0h s4 σ2 W4 H4 → Inb G s0 σ W0h H0h (wipeS s4 vs) σ W4 H4 := fun {s4 W4 H4} b =>
      ⟨b.stp, unwipe_rel wq b.rel, fun a z => b.own a (unwipe_own wq z)⟩
    have sw3 : Same W0h W3 := sw.trans st3.data
    show Post G WF s2 σ2 W3 H3 ((c s2).nox) _
    cases ec : (c s2).nox with
    | bad => simp only [ec] at q'; exact hbad q'
    | ex x y z => exact (nox_no ec).elim
    | ok b s3 =>
      simp only [ec, R.bind_ok] at q'
      intro W4 H4 a4
      have m4 := m3.aft (nOwn own2) a4
      have b5 := b4.aft a4
      cases b with
      | false =>
        simp only [if_neg Bool.false_ne_true] at q' ⊢
        exact ⟨wipeS s3 vs, W4, ad, back b5, sw3.trans a4.stp.data, m4, q'⟩
      | true =>
        simp only [if_true] at q' ⊢
        refine ⟨s3, W4, a4.rel, ?_⟩
        show Post G WF s3 σ2 W4 H4 ((mi1 s3).nox) _
        unfold lcIn at q'
        cases ee : (mi1 s3).nox with
        | bad => simp only [ee] at q'; exact hbad q'
        | ex x y z => exact (nox_no ee).elim
        | ok ds1 s5 =>
          simp only [ee, R.bind_ok] at q'
          intro W5 H5 a5 J1 hJ1
          have m5 := m4.aft (nOwn b5.own) a5
          have b6 := b5.aft a5
          have swx : ∀ {s' W' H'}, Inb G s0 σ W0h H0h s' σ2 W' H' → Same W0h W' := fun b => b.stp.data
          refine lc_walk (Qk := Qk) (k := fun zs s' => (lcGo2 vs st c (lcIn vs1 mi1 st1 c1 e) (ds.drop (i + 1)) (wipeS s' vs)).nox.bind fun ws s => lcEnd (zs ++ ws) s) (Goal := fun H2 => ∃ s2 W2 ad2, Inb G s0 σ W0h H0h s2 σ W2 H2 ∧ Same W0h W2 ∧ Mk G Dd W2 H2 ad2 ∧ Qk ((lcGo2 vs st c (lcIn vs1 mi1 st1 c1 e) (ds.drop (i + 1)) s2).nox.bind fun ys s => lcEnd (ad2 ++ ys) s))
            r0 hD b6 m5 hJ1 hbad (fun zs s hz z => ?_) ?_ (fun s' W' H' ad' b m z => ⟨wipeS s' vs, W', ad', back b, swx b, m, z⟩)
          · cases el : (lcGo2 vs st c (lcIn vs1 mi1 st1 c1 e) (ds.drop (i + 1)) (wipeS s vs)).nox with
            | bad => rw [el] at z; exact hbad z
            | ex x y z => exact (nox_no el).elim
            | ok ws s6 =>
              rw [el] at z
              exact hbig (zs ++ ws) _ (by rw [List.length_append]; omega) z
          · cases el : lcGo vs1 st1 c1 e ds1 s5 with
            | bad => rw [el] at q'; exact q'
            | ex x y z => rw [el] at q'; exact q'
            | ok ys s6 =>
              rw [el] at q'
              simp only [R.nox_ok, R.bind_ok] at q' ⊢
              unfold lcIn
              cases el2 : lcGo2 vs st c (fun s => (mi1 s).nox.bind fun ds s => lcGo vs1 st1 c1 e ds s) (ds.drop (i + 1)) (wipeS s6 vs) with
              | bad => rw [el2] at q'; exact q'
              | ex x y z => rw [el2] at q'; exact q'
              | ok ws s7 =>
                rw [el2] at q'
                simpa using q'
theorem lc2_reads {mi mi1 : M (List D)} {vs vs1 : List Nat} {st st1 : D → S → Option S} {mc mc1 : M Bool} {me : M D} {G : En} {W0 : WX} {σ : L2.St} {W H : Hp} {s : S} {Q : VK} (q : Post G W0 s σ W H (mLc2 vs vs1 mi st mc mi1 st1 mc1 me s) (KF G H Q)) :
    Post G W0 s σ W H (mi s) fun ds _ W1 H1 => ∀ J, ItOk G J W1 ds → ∀ Dd, H1 Dd = none → ∃ Wv : Nat → Nat → Hp → Prop, (∃ m, Wv 0 m (upd H1 Dd (.lst []))) ∧ ∀ i m H, Wv i m H →
      (J.stop i H ∧ Q (.ref Dd) H) ∨ (J.go i H ∧ ∃ Nx : Hp → Prop, (∀ H', Nx H' → ∃ m', m' < m ∧ Wv (i + 1) m' H') ∧ ∀ x H', J.yld i H x H' → tMG G vs st x (wipe σ vs) H' fun σ2 H2 => wipe σ2 vs = wipe σ vs ∧ tMT G WF (fun s => (mc s).nox) σ2 H2 fun b H3 =>
        if b = true then tMI G WF (fun s => (mi1 s).nox) σ2 H3 fun J1 H4 => ∃ W1 : Nat → Nat → Hp → Prop, (∃ m, W1 0 m H4) ∧ ∀ j k H, W1 j k H →
          (J1.stop j H ∧ Nx H) ∨ (J1.go j H ∧ ∃ Nx1 : Hp → Prop, (∀ H', Nx1 H' → ∃ k', k' < k ∧ W1 (j + 1) k' H') ∧ ∀ x H', J1.yld j H x H' → tMG G vs1 st1 x (wipe σ2 vs1) H' fun σ3 H5 => wipe σ3 vs1 = wipe σ2 vs1 ∧ tMT G WF (fun s => (mc1 s).nox) σ3 H5 fun b H6 =>
            if b = true then tMD G WF (fun s => (me s).nox) σ3 H6 fun y H7 => ∃ acc, H7 Dd = some (.lst acc) ∧ acc.length < sizeLine ∧ Nx1 (upd H7 Dd (.lst (acc ++ [y]))) else Nx1 H6)
        else Nx H3) := by
  have q : Post G W0 s σ W H ((mi s).bind fun ds s => (lcGo2 vs st mc (lcIn vs1 mi1 st1 mc1 me) ds s).nox.bind lcEnd) (KF G H Q) := q
  cases em : mi s with
  | bad => rw [em] at q; exact q
  | ex x y z => rw [em] at q; exact q
  | ok ds s1 =>
    rw [em] at q
    intro W1 H1 a1 J hJ Dd hD
    have q : Post G W0 s1 σ W1 H1 ((lcGo2 vs st mc (lcIn vs1 mi1 st1 mc1 me) ds s1).nox.bind lcEnd) (KF G H1 Q) := (Post.after a1 q).imp fun o s' W' H' af z p u h1 h2 h3 h4 => z p u (a1.stp.back h1) h2 h3 h4
    exact lc2_walk (Qk := fun m => Post G W0 s1 σ W1 H1 m (KF G H1 Q)) (Goal := fun H => Q (.ref Dd) H) a1.rel hD hJ id (fun zs s h z => lcEnd_big zs s h z) q
      fun s' W' H' ad b m z => lcEnd_ok hD b m z
section
variable {elt tg iter tg1 iter1 : Expr} {ifs ifs1 : List Expr} {scope : Scope} {own : List (Str × Nat)} {vs1 : List Nat} {mi mi1 : M (List D)} {st st1 : D → S → Option S} {mc mc1 : M Bool} {me : M D}
theorem mf_lc2 (hc : X.calm = true) (hN : X.N.Nodup) (hi : MI T X W0 tg iter mi) (ok : BlkOk X.N X.env.scope scope own) (hv : ∀ i ∈ vs1, i ∈ own.map (·.2))
    (hg : Blk X (fun Y => MGc T Y (own.map (·.2)) tg st) scope) (ht : Blk X (fun Y => MTs T Y WF ifs mc) scope) (hi1 : Blk X (fun Y => MI T Y WF tg1 iter1 mi1) scope) (hg1 : Blk X (fun Y => MGc T Y vs1 tg1 st1) scope) (ht1 : Blk X (fun Y => MTs T Y WF ifs1 mc1) scope) (he : Blk X (fun Y => MD T Y WF elt me) scope)
    (hs : ∀ x, foldedSetIterable iter X.env x = pure x := by intro _; rfl) (hs1 : ∀ env x, foldedSetIterable iter1 env x = pure x := by intro _ _; rfl) :
    MF T X W0 (.ListComp elt [⟨tg, iter, ifs, 0⟩, ⟨tg1, iter1, ifs1, 0⟩] scope pos) (mLc2 (own.map (·.2)) vs1 mi st mc mi1 st1 mc1 me) := by
  obtain ⟨wi, pi, hi⟩ := hi.ex
  refine ⟨_, pe_lc2 (g := tMG (X.G T) (own.map (·.2)) st) (tt := tMT (X.G T) WF (fun s => (mc s).nox)) (wi1 := tMI (X.G T) WF (fun s => (mi1 s).nox)) (g1 := tMG (X.G T) vs1 st1) (tt1 := tMT (X.G T) WF (fun s => (mc1 s).nox)) (te := tMD (X.G T) WF (fun s => (me s).nox)) hc hN pi ok hv (fun s H C cl fp => (hg s H C cl fp).can) (fun s H C cl fp => (ht s H C cl fp).nox.can)
    (fun s H C cl fp => (hi1 s H C cl fp).nox.can) (fun s H C cl fp => (hg1 s H C cl fp).can) (fun s H C cl fp => (ht1 s H C cl fp).nox.can) (fun s H C cl fp => (he s H C cl fp).nox.can) hs hs1, fun σ W H s Q r q => ?_⟩
  exact hi σ W H s _ r (lc2_reads q)
theorem ms_lc2 (i : Nat) {y : Str} {py spos : Pos} (hc : X.calm = true) (hN : X.N.Nodup) (hi : MI T X W0 tg iter mi) (ok : BlkOk X.N X.env.scope scope own) (hv : ∀ i ∈ vs1, i ∈ own.map (·.2))
    (hg : Blk X (fun Y => MGc T Y (own.map (·.2)) tg st) scope) (ht : Blk X (fun Y => MTs T Y WF ifs mc) scope) (hi1 : Blk X (fun Y => MI T Y WF tg1 iter1 mi1) scope) (hg1 : Blk X (fun Y => MGc T Y vs1 tg1 st1) scope) (ht1 : Blk X (fun Y => MTs T Y WF ifs1 mc1) scope) (he : Blk X (fun Y => MD T Y WF elt me) scope)
    (hsw : swapsWith (.ListComp elt [⟨tg, iter, ifs, 0⟩, ⟨tg1, iter1, ifs1, 0⟩] scope pos) (some (.Name y py)) spos.line X.env = pure true) (hy : X.N[i]? = some y := by rfl) (hyl : X.env.scope.names.lookup y = some .local := by rfl) (hf : i ∉ fx := by decide) (hs : ∀ x, foldedSetIterable iter X.env x = pure x := by intro _; rfl) (hs1 : ∀ env x, foldedSetIterable iter1 env x = pure x := by intro _ _; rfl) :
    MS T X W0 fx (.Assign [.Name y py] (.ListComp elt [⟨tg, iter, ifs, 0⟩, ⟨tg1, iter1, ifs1, 0⟩] scope pos) spos) (mSet i (asD (mLc2 (own.map (·.2)) vs1 mi st mc mi1 st1 mc1 me))) := by
  obtain ⟨wi, pi, hi⟩ := hi.ex
  refine ⟨_, ps_setLc2 (g := tMG (X.G T) (own.map (·.2)) st) (tt := tMT (X.G T) WF (fun s => (mc s).nox)) (wi1 := tMI (X.G T) WF (fun s => (mi1 s).nox)) (g1 := tMG (X.G T) vs1 st1) (tt1 := tMT (X.G T) WF (fun s => (mc1 s).nox)) (te := tMD (X.G T) WF (fun s => (me s).nox)) hc hN hy hyl hsw pi ok hv (fun s H C cl fp => (hg s H C cl fp).can) (fun s H C cl fp => (ht s H C cl fp).nox.can)
    (fun s H C cl fp => (hi1 s H C cl fp).nox.can) (fun s H C cl fp => (hg1 s H C cl fp).can) (fun s H C cl fp => (ht1 s H C cl fp).nox.can) (fun s H C cl fp => (he s H C cl fp).nox.can) hs hs1, fun σ W H s D r q => ?_⟩
  exact hi σ W H s _ r (lc2_reads (asD_post r (set_post hf q)))
end

/-! ### raise, try -/
def mRaise (c : Str) : M Fl := fun s => .ex c .non s
theorem ms_raise {x m : Str} {C : Addr} {j : Nat} {p p2 pos' : Pos} {B newId initId : String} {bmB : List Value} (F : ExcBaseFacts B newId initId bmB) (q : PySem.W.excIn X.K C bmB newId = true) (gC : X.mg x = some (.ref C)) (kC : PySem.W.keepIn X.K (.ref C) = true) (r : Raises X (.ref C)) (hg : Gl X x) (hc : X.calm = true) (tk : Takes X W0)
    (hdb : (x == ("__debug__" : Str)) = false := by decide) : MS T X W0 fx (.Raise (some (.Call (.Name x p) [.Constant (.str m) j p2] [] pos')) none pos) (mRaise x) :=
  ⟨_, ps_raise hc tk (pmk_own F q gC kC r hg hdb), fun σ W H s D rl q => q σ W H _ _ (.refl rl) ⟨C, rfl, gC, .inl ⟨rfl, rfl⟩⟩⟩
/-- try: body except x: suite; sub: whether an exception of this class is taken -/
def mTry (sub : Str → Option Bool) (body suite : M Fl) : M Fl := fun s => match body s with
  | .ex c d s' => match sub c with
    | some true => suite s'
    | some false => .ex c d s'
    | none => .bad
  | r => r
theorem ms_try {x : Str} {c : Value} {body suite : List Stmt} {b₀ : Stmt} {np pos' : Pos} {sub : Str → Option Bool} {mb ms : M Fl} (hs : X.stack = X.env :: X.outer) (hf : X.env.frame = some X.env.locals) (hc : Names X x c) (tk : Takes X W0)
    (hsub : ∀ y C b, sub y = some b → X.mg y = some (.ref C) → PySem.W.exmOne X.K (.ref C) c = some b)
    (hb : ∀ (W : WX) (pn : List (Addr × Obj)) (xe : Value → Shared → Prop), Takes (X.tr pn xe) W → PassesOwn (model X.prog X.w) X.A X.env xe → MSs T (X.tr pn xe) W fx body mb)
    (hsu : ∀ (a : Addr) (oe : Obj) (cls : Value) (d : Option Addr) (pn : List (Addr × Obj)), Zc cls d oe → (∃ vs, oe.data = .fields vs) → MSs T (X.suite a ((a, oe) :: pn)) WF fx (b₀ :: suite) ms) :
    MS T X W0 fx (.Try body [.ExceptHandler (some (.Name x np)) none (b₀ :: suite) pos'] [] [] pos) (mTry sub mb (fun s => match ms s with | .ex _ _ _ => .bad | r => r)) := by
  refine ⟨_, ps_try_only (tb := fun W => tMS (X.G T) W fx mb) (ts := fun _ _ _ => tMS (X.G T) WF fx ms) (Wout := W0) hs hf hc tk (fun W pn xe t p => (hb W pn xe t p).can) (fun a oe cls d pn h1 h2 => (hsu a oe cls d pn h1 h2).can), fun σ W H s D r q => ?_⟩
  refine ⟨s, W, r, ?_⟩
  unfold mTry at q
  cases em : mb s with
  | bad => rw [em] at q; exact q
  | ok f s1 =>
    rw [em] at q
    cases f with
    | nx => exact q
    | rt d => exact q
    | ro o => exact q
    | bk => exact q
    | ct => exact q
  | ex y d s1 =>
    rw [em] at q
    intro σ1 W1 H1 cl od a1 hx
    obtain ⟨C, rfl, hC, hd⟩ := id hx
    cases es : sub y with
    | none => simp only [es] at q; exact q.elim
    | some b =>
      simp only [es] at q
      refine ⟨b, hsub y C b es hC, fun hb a na => ?_, fun hb => ?_⟩
      · subst hb
        have q := PostS.after a1 q
        refine ⟨s1, W1, a1.rel, ?_⟩
        cases eh : ms s1 with
        | bad => simp only [eh] at q; exact q
        | ex y d s2 => simp only [eh] at q; exact q.elim
        | ok f s2 =>
          simp only [eh] at q
          cases f with
          | nx => exact q
          | rt d => exact q
          | ro o => exact q
          | bk => exact q
          | ct => exact q
      · subst hb
        exact q σ1 W1 H1 _ _ a1 hx
end

/-! ### a def's whole -/
/-- the parameters' slots at the end: that of the own object as it was left -/
def fin (io : Option Nat) (as s' : S) : S := match io with
  | none => as
  | some j => match s'[j]? with
    | some sl => as.set j sl
    | none => as
def fxOf : Option Nat → List Nat
  | none => []
  | some j => [j]
/-- data but for the own object at j -/
def argsOk (io : Option Nat) : S → Bool
  | [] => io.isNone
  | .fz _ :: r => match io with
    | none => argsOk none r
    | some 0 => false
    | some (j + 1) => argsOk (some j) r
  | .ow _ :: r => match io with
    | some 0 => argsOk none r
    | _ => false
  | .no :: _ => false
theorem argsOk_at : ∀ {io : Option Nat} {as : S}, argsOk io as = true → (∀ i sl, as[i]? = some sl → (∃ d, sl = .fz d) ∨ (io = some i ∧ ∃ o, sl = .ow o)) ∧ (∀ j, io = some j → ∃ o, as[j]? = some (.ow o))
  | io, [], h => by
    refine ⟨fun i sl e => by simp at e, fun j e => by subst e; cases h⟩
  | none, .fz d :: r, h => by
    obtain ⟨h1, h2⟩ := argsOk_at (io := none) (as := r) h
    refine ⟨fun i sl e => ?_, fun j e => nomatch e⟩
    cases i with
    | zero => cases e; exact .inl ⟨_, rfl⟩
    | succ i =>
      rcases h1 i sl (by simpa using e) with z | ⟨z, _⟩
      · exact .inl z
      · cases z
  | some 0, .fz d :: r, h => by cases h
  | some (j + 1), .fz d :: r, h => by
    obtain ⟨h1, h2⟩ := argsOk_at (io := some j) (as := r) h
    refine ⟨fun i sl e => ?_, fun k e => ?_⟩
    · cases i with
      | zero => cases e; exact .inl ⟨_, rfl⟩
      | succ i =>
        rcases h1 i sl (by simpa using e) with z | ⟨z, w⟩
        · exact .inl z
        · cases z; exact .inr ⟨rfl, w⟩
    · cases e
      obtain ⟨o, ho⟩ := h2 j rfl
      exact ⟨o, by simpa using ho⟩
  | none, .ow o :: r, h => by cases h
  | some 0, .ow o :: r, h => by
    obtain ⟨h1, h2⟩ := argsOk_at (io := none) (as := r) h
    refine ⟨fun i sl e => ?_, fun k e => ?_⟩
    · cases i with
      | zero => cases e; exact .inr ⟨rfl, _, rfl⟩
      | succ i =>
        rcases h1 i sl (by simpa using e) with z | ⟨z, w⟩
        · exact .inl z
        · cases z
    · cases e
      exact ⟨o, rfl⟩
  | some (j + 1), .ow o :: r, h => by cases h
  | io, .no :: r, h => by cases h
/-- a def: n parameters, k other names -/
def mFun (io : Option Nat) (k : Nat) (body : M Fl) : Fn := fun as => if argsOk io as = true then match body (as ++ List.replicate k .no) with
    | .ok .nx s' => .ok .non (fin io as s')
    | .ok (.rt d) s' => .ok d (fin io as s')
    | .ex c d s' => .ex c d (fin io as s')
    | _ => .bad
  else .bad
theorem start_rel {G : En} {W H : Hp} {vs : List V} {as : S} {N : List Str} {k : Nat} (r : RelS G W H (vs.map some) as) (hN : N.length = vs.length + k) : RelS G W H (L2.start N vs) (as ++ List.replicate k .no) := by
  have e : N.length - vs.length = k := by omega
  have hl : as.length = vs.length := by simpa using r.len
  have low : ∀ (i : Nat) (sl : Sl), (as ++ List.replicate k .no)[i]? = some sl → sl ≠ .no → as[i]? = some sl ∧ (L2.start N vs)[i]? = (vs.map some)[i]? := fun i sl h n => by
    by_cases hi : i < as.length
    · rw [List.getElem?_append_left hi] at h
      refine ⟨h, ?_⟩
      unfold L2.start
      rw [List.getElem?_append_left (by simpa [hl] using hi)]
    · rw [List.getElem?_append_right (by omega)] at h
      obtain ⟨h1, h2⟩ := List.getElem?_eq_some_iff.mp h
      rw [List.getElem_replicate] at h2
      exact absurd h2.symm n
  refine ⟨r.sub, r.tabs, by unfold L2.start; simp [hl, e], fun i sl h => ?_, fun i j o o' a h1 h2 h3 h4 => ?_⟩
  · cases sl with
    | no => trivial
    | fz d =>
      obtain ⟨g1, g2⟩ := low i _ h (fun z => nomatch z)
      rw [g2]; exact r.at_ i _ g1
    | ow d =>
      obtain ⟨g1, g2⟩ := low i _ h (fun z => nomatch z)
      rw [g2]; exact r.at_ i _ g1
  · obtain ⟨g1, g2⟩ := low i _ h1 (fun z => nomatch z)
    obtain ⟨g3, g4⟩ := low j _ h2 (fun z => nomatch z)
    rw [g2] at h3
    rw [g4] at h4
    exact r.inj i j o o' a g1 g3 h3 h4
theorem start_own {vs : List V} {as : S} {N : List Str} {k : Nat} (hl : as.length = vs.length) {a : Addr} (h : Own (as ++ List.replicate k .no) (L2.start N vs) a) : Own as (vs.map some) a := by
  obtain ⟨i, o, e1, e2⟩ := h
  by_cases hi : i < as.length
  · rw [List.getElem?_append_left hi] at e1
    unfold L2.start at e2
    rw [List.getElem?_append_left (by simpa [hl] using hi)] at e2
    exact ⟨i, o, e1, e2⟩
  · rw [List.getElem?_append_right (by omega)] at e1
    obtain ⟨h1, h2⟩ := List.getElem?_eq_some_iff.mp e1
    rw [List.getElem_replicate] at h2
    cases h2
/-- behind the body: the parameters -/
theorem fin_aft {G : En} {io : Option Nat} {W H W' H' : Hp} {vs : List V} {as s' : S} {σ' : L2.St} {N : List Str} {k : Nat} (ok : argsOk io as = true) (r : RelS G W H (vs.map some) as) (hN : N.length = vs.length + k)
    (a : AftS G (fxOf io) (as ++ List.replicate k .no) (L2.start N vs) W H s' σ' W' H') : Aft G as (vs.map some) W H (fin io as s') W' H' := by
  obtain ⟨h1, h2⟩ := argsOk_at ok
  have hl : as.length = vs.length := by simpa using r.len
  have stp : Stp (Own as (vs.map some)) W H W' H' := a.stp.mono fun x z => start_own hl z
  have data : ∀ (i : Nat) (d : D), as[i]? = some (.fz d) → SlOk G W' H' (vs.map some)[i]? (.fz d) := fun i d e => by
    obtain ⟨v, e1, e2⟩ := r.get e
    exact ⟨v, e1, e2.mono a.stp.data⟩
  cases io with
  | none =>
    refine ⟨stp, ⟨a.rel.sub, a.rel.tabs, r.len, fun i sl e => ?_, fun i j o o' b e1 _ _ _ => ?_⟩, fun b z => z⟩
    · rcases h1 i sl e with ⟨d, rfl⟩ | ⟨z, _⟩
      · exact data i d e
      · cases z
    · rcases h1 i _ e1 with ⟨d, z⟩ | ⟨z, _⟩
      · cases z
      · cases z
  | some j =>
    obtain ⟨o0, ho⟩ := h2 j rfl
    have lj : j < as.length := (List.getElem?_eq_some_iff.mp ho).1
    obtain ⟨p, u, ep, hp1, hp2, _⟩ := r.ow ho
    have ej : σ'[j]? = some (some (.ref p)) := by
      rw [a.fix j (by simp [fxOf])]
      unfold L2.start
      rw [List.getElem?_append_left (by simpa [hl] using lj)]
      exact ep
    have op : Own as (vs.map some) p := ⟨j, o0, ho, ep⟩
    show Aft G as (vs.map some) W H (match s'[j]? with
      | some sl => as.set j sl
      | none => as) W' H'
    cases es : s'[j]? with
    | none =>
      -- the slot is always there
      have : j < s'.length := by
        rw [a.rel.len]
        have z := (List.getElem?_eq_some_iff.mp ej).1
        exact z
      rw [List.getElem?_eq_none_iff] at es
      omega
    | some sl =>
      show Aft G as (vs.map some) W H (as.set j sl) W' H'
      refine ⟨stp, ⟨a.rel.sub, a.rel.tabs, by rw [List.length_set]; exact r.len, fun i x e => ?_, fun i k o o' b e1 e2 _ _ => ?_⟩, fun b ⟨i, o, e1, e2⟩ => ?_⟩
      · by_cases hi : j = i
        · subst hi
          rw [List.getElem?_set_self lj] at e
          cases e
          rw [ep, ← ej]
          exact a.rel.at_ j _ es
        · rw [List.getElem?_set_ne hi] at e
          rcases h1 i x e with ⟨d, rfl⟩ | ⟨z, _⟩
          · exact data i d e
          · cases z; exact absurd rfl hi
      · have at_j : ∀ {i : Nat} {o : MO}, (as.set j sl)[i]? = some (Sl.ow o) → i = j := fun {i o} e => by
          by_cases hi : j = i
          · exact hi.symm
          · rw [List.getElem?_set_ne hi] at e
            rcases h1 i _ e with ⟨d, z⟩ | ⟨z, _⟩
            · cases z
            · cases z; rfl
        rw [at_j e1, at_j e2]
      · by_cases hi : j = i
        · subst hi
          rw [ep] at e2
          cases e2
          exact op
        · rw [List.getElem?_set_ne hi] at e1
          exact ⟨i, o, e1, e2⟩
section
variable {P : Program} {w : World} {K : PySem.W.Frag} {mg : Str → Option Value} {base : Heap} {T : List (Addr × Str)}
/-- THE RULE for a def: what its body makes of the slots -/
theorem fn_ok {x qual : Str} {st : Stmt} {f : Addr} {fd : FuncData} {N ps : List Str} {j k n : Nat} {io : Option Nat} {m : M Fl} (Fd : Fun K x qual st f fd) (Sc : FnScope N ps (defScope st)) (hn : ps.length = n) (hN : N.length = n + k)
    (hbody : ∀ (cdv : Value) (A : Around) (outer : List Env) (s : Shared) (H : Hp) (E : XK), Room j (A.deeper (envOfC qual (defScope st) s.heap.objs.size f cdv)) → ∀ W0, Takes (cxOf (L2.CX P w) P w K mg base N qual (defScope st) f cdv A outer s H E) W0 →
      MSs T (cxOf (L2.CX P w) P w K mg base N qual (defScope st) f cdv A outer s H E) W0 (fxOf io) (defBody st) m) : FnOk P w K mg base (L2.CX P w) (j + 1) f fd ps (spF ⟨K, mg, T⟩ n (mFun io k m)) := by
  refine Fd.okX Sc (spF_len hn) fun cdv A outer s H vs Q E hr hsp => ?_
  obtain ⟨W, as, hl, r, q⟩ := hsp
  obtain ⟨t, pt, ht⟩ := (hbody cdv A outer s H E hr (fun cls d _ H => E cls d H) (takes_of rfl rfl rfl rfl)).ex
  have rs : RelS ⟨K, mg, T⟩ W H (L2.start N vs) (as ++ List.replicate k .no) := start_rel r (by omega)
  refine ⟨t, pt, ht _ W H (as ++ List.replicate k Sl.no) _ rs ?_⟩
  unfold mFun at q
  split at q
  · rename_i ok
    cases em : m (as ++ List.replicate k .no) with
    | bad => rw [em] at q; exact q
    | ex c d s' =>
      rw [em] at q
      exact fun σ' W' H' cl od a hx => q W' H' cl od (fin_aft ok r (by omega) a) hx
    | ok f s' =>
      rw [em] at q
      cases f with
      | nx => exact fun σ' W' H' a => q W' H' (fin_aft ok r (by omega) a) _ .non
      | rt d => exact fun σ' W' H' v a hv => q W' H' (fin_aft ok r (by omega) a) v hv
      | ro o => exact q.elim
      | bk => exact q.elim
      | ct => exact q.elim
  · exact q.elim
/-- a def that hands back a new list -/
def mFunO (k : Nat) (body : M Fl) : S → R MO := fun as => if argsOk none as = true then match body (as ++ List.replicate k .no) with
    | .ok (.ro o) s' => .ok o as
    | .ex c d s' => .ex c d as
    | _ => .bad
  else .bad
def spFO (G : En) (n : Nat) (F : S → R MO) : Sp := fun vs H Q E => ∃ W s, vs.length = n ∧ RelS G W H (vs.map some) s ∧ Post G (fun cl d _ H' => E cl d H') s (vs.map some) W H (F s) (KF G H Q)
theorem fn_okO {x qual : Str} {st : Stmt} {f : Addr} {fd : FuncData} {N ps : List Str} {j k n : Nat} {m : M Fl} (Fd : Fun K x qual st f fd) (Sc : FnScope N ps (defScope st)) (hn : ps.length = n) (hN : N.length = n + k)
    (hbody : ∀ (cdv : Value) (A : Around) (outer : List Env) (s : Shared) (H : Hp) (E : XK), Room j (A.deeper (envOfC qual (defScope st) s.heap.objs.size f cdv)) → ∀ W0, Takes (cxOf (L2.CX P w) P w K mg base N qual (defScope st) f cdv A outer s H E) W0 →
      MSs T (cxOf (L2.CX P w) P w K mg base N qual (defScope st) f cdv A outer s H E) W0 [] (defBody st) m) : FnOk P w K mg base (L2.CX P w) (j + 1) f fd ps (spFO ⟨K, mg, T⟩ n (mFunO k m)) := by
  refine Fd.okX Sc (fun vs H Q E ⟨_, _, e, _⟩ => e.trans hn.symm) fun cdv A outer s H vs Q E hr hsp => ?_
  obtain ⟨W, as, hl, r, q⟩ := hsp
  obtain ⟨t, pt, ht⟩ := (hbody cdv A outer s H E hr (fun cls d _ H => E cls d H) (takes_of rfl rfl rfl rfl)).ex
  have rs : RelS ⟨K, mg, T⟩ W H (L2.start N vs) (as ++ List.replicate k .no) := start_rel r (by omega)
  refine ⟨t, pt, ht _ W H (as ++ List.replicate k Sl.no) _ rs ?_⟩
  unfold mFunO at q
  split at q
  · rename_i ok
    have fa : ∀ {s' σ' W' H'}, AftS ⟨K, mg, T⟩ [] (as ++ List.replicate k .no) (L2.start N vs) W H s' σ' W' H' → Aft ⟨K, mg, T⟩ as (vs.map some) W H as W' H' := fun a => fin_aft (io := none) ok r (by omega) a
    have noOwn : ∀ p, ¬ Own (as ++ List.replicate k .no) (L2.start N vs) p := fun p z => by
      obtain ⟨i, o, e1, _⟩ := start_own (by simpa using r.len) z
      rcases (argsOk_at ok).1 i _ e1 with ⟨d, z⟩ | ⟨z, _⟩
      · cases z
      · cases z
    cases em : m (as ++ List.replicate k .no) with
    | bad => rw [em] at q; exact q
    | ex c d s' =>
      rw [em] at q
      exact fun σ' W' H' cl od a hx => q W' H' cl od (fa a) hx
    | ok f s' =>
      rw [em] at q
      cases f with
      | ro o => exact fun σ' W' H' p u a hp h1 h2 h3 => q W' H' (fa a) p u (hp.elim (fun z => (noOwn p z).elim) id) h1 h2 h3
      | nx => exact q.elim
      | rt d => exact q.elim
      | bk => exact q.elim
      | ct => exact q.elim
  · exact q.elim
end
/-- such a call -/
def mFnO (F : S → R MO) (m : M (List D)) : M MO := fun s => (m s).bind fun ds s => match F (ds.map .fz) with
  | .ok o _ => .ok o s
  | .ex c d _ => .ex c d s
  | .bad => .bad
section
variable {T : List (Addr × Str)} {X : Cx} {W0 : WX} {e : Expr} {es : List Expr} {pos p : Pos} {k : Nat} {f : Addr} {fd : FuncData} {ps : List Str} {n : Nat} {F : S → R MO} {x : Str}
theorem mf_fnO {m : M (List D)} (Fk : FnOk X.prog X.w X.K X.mg X.base (L2.CX X.prog X.w) k f fd ps (spFO (X.G T) n F)) (hr : Room k X.A) (hg : Gl X x) (hm : X.mg x = some (.ref f)) (hk : PySem.W.keepIn X.K (.ref f) = true) (hb : L2.Binds X.K fd ps []) (tk : Takes X W0) (h : MA T X W0 (e :: es) m)
    (hn : (e :: es).length = n := by rfl) (hdb : (x == ("__debug__" : Str)) = false := by decide) (he : starEach (e :: es) X.env = (false, eval e X.env) :: starEach es X.env := by rfl) (hpl : (backTo pos (starEach es X.env)).any (·.1) = false := by rfl) :
    MF T X W0 (.Call (.Name x p) (e :: es) [] pos) (mFnO F m) := by
  obtain ⟨⟨t, pt, h⟩, hl⟩ := h
  refine ⟨_, pe_callS Fk hr hg hm hk hb (fun σ => passAt tk σ) pt hdb he hpl, fun σ W H s Q r q => h σ W H s _ r ?_⟩
  have q : Post (X.G T) W0 s σ W H ((m s).bind _) (KF (X.G T) H Q) := q
  cases em : m s with
  | bad => rw [em] at q; exact q
  | ex c d s1 => rw [em] at q; exact q
  | ok ds s1 =>
    rw [em] at q
    intro W1 H1 a1 vs hvs
    have q := Post.after a1 q
    have hlen : vs.length = n := by rw [hvs.length, hl _ _ _ em]; exact hn
    refine ⟨W1, ds.map .fz, hlen, reps_rel a1.rel.sub a1.rel.tabs hvs, ?_⟩
    simp only [R.bind_ok] at q
    have up : ∀ {s' W' H'}, Aft (X.G T) (ds.map .fz) (vs.map some) W1 H1 s' W' H' → Aft (X.G T) s1 σ W1 H1 s1 W' H' := fun af =>
      .over a1.rel (af.stp.mono fun a z => (no_own z).elim) af.rel.sub af.rel.tabs
    cases eF : F (ds.map .fz) with
    | bad => simp only [eF] at q; exact q
    | ex c d s' =>
      simp only [eF] at q
      exact fun W' H' cl od af x => q W' H' cl od (up af) x
    | ok o s' =>
      simp only [eF] at q
      exact fun W' H' af p u h1 h2 h3 h4 => q W' H' (up af) p u (a1.stp.back h1) h2 h3 h4
end
end Mv

set_option Elab.async false
set_option linter.all false
set_option maxRecDepth 100000
set_option maxHeartbeats 2000000
/-! Mv12: a def that tells whether a lambda raises; for call in (lambda: .., ..): if not refused(call): return False. -/
namespace Mv
open PySem PySem.Spec PyProof.Rows L2

/-- the lambda as it stands at f, its code object at c -/
def LamAt (X : Cx) (ar : Arguments) (bd : Expr) (sc : Scope) (c f : Addr) : HO :=
  .ext fun h => ∃ pm ctv : Value, h.get? f = some (PySem.W.kla_obj "<lambda>" (X.env.qual ++ "<lambda>") ar bd sc (cloFrom X.env.cells sc.names []) pm c ctv)
section
variable {T : List (Addr × Str)} {X : Cx} {pins : List (Addr × Obj)} {σ : L2.St} {H : Hp} {s : Shared} {ar : Arguments} {bd : Expr} {sc : Scope} {pos : Pos}
theorem lamAt_ok {P : Program} {w : World} {H : Hp} {h : Heap} {c f : Addr} {pm ctv : Value} (e : h.get? f = some (PySem.W.kla_obj "<lambda>" (X.env.qual ++ "<lambda>") ar bd sc (cloFrom X.env.cells sc.names []) pm c ctv)) : ObjOk P w H h f (LamAt X ar bd sc c f) :=
  ⟨⟨pm, ctv, e⟩, ⟨_, e⟩, fun h1 h2 ⟨a, b, z⟩ k => ⟨a, b, k _ z⟩⟩
/-- what a new lambda leaves of the heap -/
structure Grew (T : List (Addr × Str)) (H H1 : Hp) : Prop where
  tabs : LamX.Tabs T H1
  keep : ∀ b o, H b = some o → (∀ p ∈ T, b ≠ p.1) → H1 b = some o
  there : ∀ b o, H b = some o → ∃ o', H1 b = some o'
theorem Grew.trans {H1 H2 : Hp} (a : Grew T H H1) (b : Grew T H1 H2) : Grew T H H2 :=
  ⟨b.tabs, fun x o e z => b.keep x o (a.keep x o e z) z, fun x o e => let ⟨o', q⟩ := a.there x o e; b.there x o' q⟩
theorem Grew.new {p : Addr} {u : HO} (t : LamX.Tabs T H) (hp : H p = none) : Grew T H (upd H p u) :=
  ⟨t.ext (same_new hp), fun b o e _ => same_new hp b o e, fun b o e => ⟨o, same_new hp b o e⟩⟩
def tLam (T : List (Addr × Str)) (X : Cx) (ar : Arguments) (bd : Expr) (sc : Scope) : TE := fun _ H Q => LamX.Tabs T H ∧ ∀ f c H1, H f = none → H1 f = some (LamAt X ar bd sc c f) → H1 c = some (LamX.CodeO c (X.env.qual ++ "<lambda>")) → Grew T H H1 → Q (.ref f) H1
/-- a lambda is made: its code object is new, or stands in the table -/
theorem pe_lam {c P : Addr} (TB : LamX.TabB X.base X.mg c P) (hcode : X.env.code = .ref c) (hm : (P, X.env.qual ++ "<lambda>") ∈ T) (hu : ∀ p ∈ T, p.1 = P → p.2 = X.env.qual ++ "<lambda>") (L : LamX.LamS X.env.scope sc) (hdef : defaultsOf ar X.env = ([], [])) :
    PE X (.Lambda ar bd sc pos) (tLam T X ar bd sc) := by
  refine ⟨fun pins s σ H Q I ⟨hT, h⟩ => ?_⟩
  obtain ⟨tab, atP, okT, known⟩ := hT _ hm
  refine PySem.W.kla_eval hdef ?_
  have names : s.heap.BuiltinsAt X.mg P := TB.bm.keeps I.bk
  have standsP : s.heap.get? P = some { cls := .none, data := .fields tab } := I.hok P _ atP
  have caught := closure_ok (L.has I.ok)
  cases found : codeAmong pos tab.toList with
  | some cv =>
    obtain ⟨c1, ec, hco⟩ := known pos cv found
    subst ec
    refine PySem.W.kla_makeFunctionHit (mg := X.mg) (c := c) (P := P) (ps := tab) caught I.ok.glob (I.mod.glob.keeps I.bk) hcode (TB.code.keeps I.bk) standsP okT found names fun ctv h1 tk more big => ?_
    have J : Inv X pins σ H { s with heap := h1, toks := tk } := I.kept more
    have free : H h1.objs.size = none := I.hok.fresh big
    have J2 := J.laid (a := h1.objs.size) (o := LamAt X ar bd sc c1 h1.objs.size) (t' := tk) (h' := h1.push (PySem.W.kla_obj "<lambda>" (X.env.qual ++ "<lambda>") ar bd sc (cloFrom X.env.cells sc.names []) ((X.mg "__name__").getD .none) c1 ctv))
      (fun b o e => Heap.get?_push_of_some _ e) (Nat.le_refl _) (lamAt_ok (Heap.get?_push_size _ rfl))
    exact ⟨.ref h1.objs.size, _, J2, rfl, h _ c1 _ free upd_same (by rw [upd_ne (ne_of_none hco free)]; exact hco) (.new hT free)⟩
  | none =>
    refine PySem.W.kla_makeFunction (mg := X.mg) (c := c) (P := P) (ps := tab) caught I.ok.glob (I.mod.glob.keeps I.bk) hcode (TB.code.keeps I.bk) standsP okT found TB.gP names fun c1 ctv h1 tk more big low isCode tab1 => ?_
    obtain ⟨c2, oc, us, t, ec, hoc, hd, hv⟩ := isCode
    cases ec
    have grown : s.heap.objs.size ≤ h1.objs.size := Nat.le_trans big (Nat.le_of_lt low)
    have freeC : H c1 = none := I.hok.fresh big
    have neP : P ≠ c1 := ne_of_none atP freeC
    have J := LamX.inv_table (t' := tk) (more := #[rawInt pos.line, rawInt pos.col, .ref c1]) (h' := h1) I atP more tab1 big ⟨oc, us, t, hoc, hd, hv⟩
    have keep1 : ∀ b o, H b = some o → (∀ p ∈ T, b ≠ p.1) → upd (upd H P (.tbl (tab ++ #[rawInt pos.line, rawInt pos.col, .ref c1]))) c1 (LamX.CodeO c1 (X.env.qual ++ "<lambda>")) b = some o := fun b o e z => by
      rw [upd_ne (ne_of_none e freeC), upd_ne (z _ hm)]
      exact e
    have noTab : ∀ c0, H c0 = some (LamX.CodeO c0 (X.env.qual ++ "<lambda>")) → ∀ p ∈ T, c0 ≠ p.1 := fun c0 e p hp z => by
      obtain ⟨tb, g1, _⟩ := hT p hp
      rw [← z, e] at g1
      exact LamX.codeO_ne _ (Option.some.inj g1)
    have noTab2 : ∀ c0 q, H c0 = some (LamX.CodeO c0 q) → ∀ p ∈ T, c0 ≠ p.1 := fun c0 q e p hp z => by
      obtain ⟨tb, g1, _⟩ := hT p hp
      rw [← z, e] at g1
      exact LamX.codeO_ne _ (Option.some.inj g1)
    have isRow : (tab ++ #[rawInt pos.line, rawInt pos.col, .ref c1]).toList = tab.toList ++ [rawInt pos.line, rawInt pos.col, .ref c1] := by simp
    have tabs1 : LamX.Tabs T (upd (upd H P (.tbl (tab ++ #[rawInt pos.line, rawInt pos.col, .ref c1]))) c1 (LamX.CodeO c1 (X.env.qual ++ "<lambda>"))) := fun p hp => by
      by_cases hb : p.1 = P
      · rw [hu p hp hb, hb]
        refine ⟨_, by rw [upd_ne neP, upd_same], by rw [isRow]; exact PySem.TriplesOk_snoc _ _ _ _ okT, fun p1 cv hcv => ?_⟩
        rw [isRow] at hcv
        rcases LamX.among_app _ okT hcv with z | z
        · obtain ⟨c0, e1, e2⟩ := known p1 cv z
          exact ⟨c0, e1, keep1 _ _ e2 (noTab c0 e2)⟩
        · exact ⟨c1, z, upd_same⟩
      · obtain ⟨tab2, g1, g2, g3⟩ := hT p hp
        refine ⟨tab2, by rw [upd_ne (ne_of_none g1 freeC), upd_ne hb]; exact g1, g2, fun p1 cv hcv => ?_⟩
        obtain ⟨c0, e1, e2⟩ := g3 p1 cv hcv
        exact ⟨c0, e1, keep1 _ _ e2 (noTab2 c0 _ e2)⟩
    have grew1 : Grew T H (upd (upd H P (.tbl (tab ++ #[rawInt pos.line, rawInt pos.col, .ref c1]))) c1 (LamX.CodeO c1 (X.env.qual ++ "<lambda>"))) := ⟨tabs1, keep1, fun b o e => by
      by_cases q : b = P
      · subst q; exact ⟨_, by rw [upd_ne neP]; exact upd_same⟩
      · exact ⟨o, by rw [upd_ne (ne_of_none e freeC), upd_ne q]; exact e⟩⟩
    have freeF : upd (upd H P (.tbl (tab ++ #[rawInt pos.line, rawInt pos.col, .ref c1]))) c1 (LamX.CodeO c1 (X.env.qual ++ "<lambda>")) h1.objs.size = none := J.hok.fresh (Nat.le_refl _)
    have J2 := J.laid (a := h1.objs.size) (o := LamAt X ar bd sc c1 h1.objs.size) (t' := tk) (h' := h1.push (PySem.W.kla_obj "<lambda>" (X.env.qual ++ "<lambda>") ar bd sc (cloFrom X.env.cells sc.names []) ((X.mg "__name__").getD .none) c1 ctv))
      (fun b o e => Heap.get?_push_of_some _ e) (Nat.le_refl _) (lamAt_ok (Heap.get?_push_size _ rfl))
    refine ⟨.ref h1.objs.size, _, J2, rfl, h _ c1 _ (I.hok.fresh grown) upd_same ?_ (grew1.trans (.new tabs1 freeF))⟩
    have hc1 : upd (upd H P (.tbl (tab ++ #[rawInt pos.line, rawInt pos.col, .ref c1]))) c1 (LamX.CodeO c1 (X.env.qual ++ "<lambda>")) c1 = some (LamX.CodeO c1 (X.env.qual ++ "<lambda>")) := upd_same
    rw [upd_ne (ne_of_none hc1 freeF)]
    exact hc1
end
/-- the lambda's body, entered from a def that the frame X called -/
abbrev LamBody (T : List (Addr × Str)) (X : Cx) (k : Nat) (sc : Scope) (bd : Expr) (m : M D) : Prop :=
  ∀ (A : Around) (outer : List Env) (s : Shared) (H : Hp) (E : XK) (f c : Addr), Room k (A.deeper (LamX.lamEnv X sc s.heap.objs.size f c)) → ∀ W0, Takes (LamX.lamCx X A outer s H E sc f c) W0 → MD T (LamX.lamCx X A outer s H E sc f c) W0 bd m
section
variable {T : List (Addr × Str)} {X : Cx} {pins : List (Addr × Obj)} {σ : L2.St} {H : Hp} {s : Shared} {ar : Arguments} {bd : Expr} {sc : Scope} {pos : Pos}
/-- a() within the def that got the lambda -/
theorem pe_actT {Eg : XK} {Ng : List Str} {qg : Str} {sg : Scope} {g f c : Addr} {cdg : Value} {k i : Nat} {a : Str} {pn : List (Addr × Obj)} {xe : Value → Shared → Prop} {W : WX} {E : XK} {m : M D} {p1 p2 : Pos}
    (I : Inv X pins σ H s) (L : LamX.LamS X.env.scope sc) (hbind : ∀ (q : Str) (cl : List (Str × Addr)) (pm cv ctv : Value), bindArgs (PySem.W.kla_fn "<lambda>" q ar bd sc cl pm cv ctv) ⟨[], []⟩ = pure [])
    (tk : Takes ((cxOf (L2.CX X.prog X.w) X.prog X.w X.K X.mg X.base Ng qg sg g cdg X.A X.stack s H Eg).tr pn xe) W) (hW : ∀ cls d σ' H', E cls d H' → W cls d σ' H') (hr : Room (k + 1) (X.A.deeper (envOfC qg sg s.heap.objs.size g cdg)))
    (hbody : LamBody T X k sc bd m) (hN : Ng[i]? = some a) (hv : Vis sg a) (hd : (a == ("__debug__" : Str)) = false := by decide) (hcd : (a == ("__classdict__" : Str)) = false := by decide) :
    PE ((cxOf (L2.CX X.prog X.w) X.prog X.w X.K X.mg X.base Ng qg sg g cdg X.A X.stack s H Eg).tr pn xe) (.Call (.Name a p1) [] [] p2)
      (fun τ HZ Q => τ[i]? = some (some (.ref f)) ∧ HZ f = some (LamAt X ar bd sc c f) ∧ HZ c = some (LamX.CodeO c (X.env.qual ++ "<lambda>")) ∧ tMD (X.G T) (fun cls d _ H' => E cls d H') m σ HZ Q) := by
  refine ⟨fun pinsZ sZ τ HZ Q IZ ⟨hs, hf, hc, ht⟩ => ?_⟩
  refine wpAny_Call_Name_kw (thn ((pe_var (pos := p1) (i := i) hN hv hd hcd).run pinsZ sZ τ HZ (fun v H1 => v = .ref f ∧ H1 = HZ) IZ ⟨.ref f, hs, rfl, rfl⟩) fun u s1 ⟨v, H1, I1, r1, ev, eH⟩ => ?_)
  subst ev
  rw [eH] at I1
  obtain rfl : u = Value.ref f := r1
  obtain ⟨⟨pm, ctv, standsF⟩, _, _⟩ := I1.hok f _ hf
  refine PySem.W.callWith_F0 ⟨_, _, _, _, standsF⟩ ?_
  have un : Un (frs X.stack) [] H HZ s.heap s1.heap := I1.base
  obtain ⟨⟨oc, us, t, g1, g2, g3⟩, _, _⟩ := I1.hok c _ hc
  have runs : codeAny (model X.prog X.w) (X.A.deeper (envOfC qg sg s.heap.objs.size g cdg)) (.call (.ref f) ⟨[], []⟩) (CR (L2.CX X.prog X.w) (envOfC qg sg s.heap.objs.size g cdg :: X.stack) X.prog X.w HZ s1 Q E) s1 := by
    refine PySem.W.kla_callFunE hr.depth standsF rfl L.co L.gen rfl ⟨c, oc, us, t, rfl, g1, g2, g3⟩ ?_
    rw [hbind]
    refine wpAny_pure (wpAny_newFunctionEnv (fun y hy => (L.own y hy).2) (fun y hy => absurd hy (by simp)) (fun h2 hns hsb => ⟨I1.nolimit.fresh _ hsb, ?_⟩) L.kind)
    have kp : ∀ b o, s1.heap.get? b = some o → h2.get? b = some o := fun b o e => hsb.extBut b o (Nat.ne_of_lt (Heap.lt_size e)) (Heap.get?_push_of_some _ e)
    have J := LamX.lam_start2 (tk := s1.toks + ([] : List (Str × Value)).length) (A := X.A.deeper (envOfC qg sg s.heap.objs.size g cdg)) (outer := envOfC qg sg s.heap.objs.size g cdg :: X.stack) (E := E) (f := f) (c' := c) I L I1.env0 hr.hd un hns kp
    have body := (hbody (X.A.deeper (envOfC qg sg s.heap.objs.size g cdg)) (envOfC qg sg s.heap.objs.size g cdg :: X.stack) s1 HZ E f c (hr.deeper _) (fun cls d _ H' => E cls d H') (takes_of rfl rfl rfl rfl)).can
    refine PySem.W.kla_codeExpr (wpAny_mono (body.run [] _ _ HZ Q J ht) (fun v s' hq => ?_) fun e s' hq => hq)
    obtain ⟨w', H', J', rv, q⟩ := hq
    exact ⟨w', H', J'.os, J'.bare, J'.base, J'.hok, rv, q⟩
  have hx : Passes (L2.CX X.prog X.w) ((cxOf (L2.CX X.prog X.w) X.prog X.w X.K X.mg X.base Ng qg sg g cdg X.A X.stack s H Eg).tr pn xe) E := passes_call tk hW
  refine wpAny_call (codeAny_mono runs fun r s' hq => ?_)
  cases r with
  | error e => exact hx pinsZ τ HZ s1 e s' I1 hq
  | ok fl =>
    cases fl with
    | ret u => exact I1.after hq
    | next => exact hq.elim
    | brk => exact hq.elim
    | cont => exact hq.elim
end
/-- what comes of refused(call): True if it raises one that is taken, False if it answers -/
def mRef (sub : Str → Option Bool) (m : M D) : M Bool := fun s => match m s with
  | .ok _ s' => .ok false s'
  | .ex c _ s' => match sub c with
    | some true => .ok true s'
    | _ => .bad
  | .bad => .bad
/-- def x(a): try: a() / except e: return True; return False -/
structure RefDef (x a e : Str) (st : Stmt) : Prop where
  ex : ∃ p1 p2 p3 p4 p5 p6 p7 p8 p9 pa j j2, defBody st = [.Try [.Expr (.Call (.Name a p1) [] [] p2) p3] [.ExceptHandler (some (.Name e p4)) none [.Return (some (.Constant (.bool true) j p5)) p6] p7] [] [] p8, .Return (some (.Constant (.bool false) j2 p9)) pa]
section
variable {T : List (Addr × Str)} {X : Cx} {ar : Arguments} {bd : Expr} {sc : Scope} {pos : Pos}
/-- refused(call), call's slot holding the lambda -/
theorem pe_ref {k i : Nat} {x a e y : Str} {g CS : Addr} {gd : FuncData} {st : Stmt} {Ng : List Str} {sub : Str → Option Bool} {m : M D} {p py : Pos} (Fg : Fun X.K x x st g gd) (Rd : RefDef x a e st) (Sg : FnScope Ng [a] (defScope st)) (hbg : L2.Binds X.K gd [a] []) (hg : Gl X x) (hm : X.mg x = some (.ref g)) (hNg : Ng[0]? = some a) (hva : Vis (defScope st) a)
    (hle : (defScope st).names.lookup e = some .globalImplicit) (hme : X.mg e = some (.ref CS)) (hsub : ∀ z C b, sub z = some b → X.mg z = some (.ref C) → PySem.W.exmOne X.K (.ref C) (.ref CS) = some b)
    (hr : Room (k + 2) X.A) (L : LamX.LamS X.env.scope sc) (hbind : ∀ (q : Str) (cl : List (Str × Addr)) (pm cv ctv : Value), bindArgs (PySem.W.kla_fn "<lambda>" q ar bd sc cl pm cv ctv) ⟨[], []⟩ = pure []) (hbody : LamBody T X k sc bd m)
    (hN : X.N[i]? = some y) (hv : Vis X.env.scope y) (hdx : (x == ("__debug__" : Str)) = false := by decide) (hdy : (y == ("__debug__" : Str)) = false := by decide) (hcy : (y == ("__classdict__" : Str)) = false := by decide) (hda : (a == ("__debug__" : Str)) = false := by decide) (hca : (a == ("__classdict__" : Str)) = false := by decide) (hde : (e == ("__debug__" : Str)) = false := by decide)
    (h0 : ∀ f : Addr, (L2.start Ng [V.ref f])[0]? = some (some (V.ref f))) (hs : starEach [Expr.Name y py] X.env = (false, eval (.Name y py) X.env) :: starEach [] X.env := by rfl) (hpl : (backTo pos (starEach [] X.env)).any (·.1) = false := by rfl) :
    PE X (.Call (.Name x p) [.Name y py] [] pos) (fun σ H Q => ∃ f c, σ[i]? = some (some (.ref f)) ∧ H f = some (LamAt X ar bd sc c f) ∧ H c = some (LamX.CodeO c (X.env.qual ++ "<lambda>")) ∧
      tMD (X.G T) (fun cls _ _ H' => PySem.W.exmOne X.K cls (.ref CS) = some true ∧ Q (.bl true) H') m σ H fun _ H' => Q (.bl false) H') := by
  refine ⟨fun pins s σ H Q I ⟨f, c, e1, e2, e3, e4⟩ => ?_⟩
  obtain ⟨oc, od, kV, doc, pm, an, cdv, ct, osl, rfl, lk, hcd⟩ := Fg.ex
  obtain ⟨p1, p2, p3, p4, p5, p6, p7, p8, p9, pa, j, j2, eb⟩ := Rd.ex
  refine wpAny_Call_Name_kw (ld_glob I hg hm ?_ hdx)
  have pargs : PA X [.Name y py] (tCons (tVar i) tNil) := pa_cons (pe_var hN hv hdy hcy) pa_nil hs
  refine PySem.W.callWith_K (h₀ := X.base) I.ok.mod.kin Fg.kp (thn (pargs.run pos pins s σ H (fun vs H1 => vs = [V.ref f] ∧ H1 = H) I ⟨.ref f, e1, rfl, rfl⟩) fun us s1 ⟨vs, H1, I1, r1, ev, eH⟩ => ?_) hs hpl
  subst ev
  rw [eH] at I1
  obtain rfl : us = [Value.ref f] := r1.ref1
  refine ⟨I1.kIn, ?_⟩
  have rc : codeAny (model X.prog X.w) X.A (.call (.ref g) ⟨[.ref f], []⟩) (CR (L2.CX X.prog X.w) X.stack X.prog X.w H s1 Q (fun _ _ _ => False)) s1 := by
    refine LamX.run_ofS (N := Ng) (ps := [a]) (us := [.ref f]) (vs := [.ref f]) lk hcd Sg hr I1.env0 (hbg s1 [.ref f] I1.kIn rfl) (.cons rfl .nil) rfl fun hr1 => ?_
    rw [eb]
    have names : Names (cxOf (L2.CX X.prog X.w) X.prog X.w X.K X.mg X.base Ng x (defScope st) g cdv X.A X.stack s1 H fun _ _ _ => False) e (.ref CS) := ⟨hle, hde, .inl hme⟩
    refine ⟨_, pss_cons (ps_try_only (c := .ref CS)
      (tb := fun W D τ HZ => ∃ E : XK, (∀ cls d τ' H', E cls d H' → W cls d τ' H') ∧ τ[0]? = some (some (.ref f)) ∧ HZ f = some (LamAt X ar bd sc c f) ∧ HZ c = some (LamX.CodeO c (X.env.qual ++ "<lambda>")) ∧ tMD (X.G T) (fun cls d _ H' => E cls d H') m σ HZ fun _ H' => D.nx τ H')
      rfl rfl names (takes_of rfl rfl rfl rfl) (fun W pn xe tk _ => ?_) (fun a1 oe cls d pn _ _ => pss_one (ps_ret pe_bl))) (pss_one (ps_ret pe_bl)), ?_⟩
    · refine ⟨fun pins1 s2 τ HZ D J ⟨E, hW, q1, q2, q3, q4⟩ => ?_⟩
      exact (pss_one (ps_expr (pos := p3) (pe_actT (p1 := p1) (p2 := p2) (i := 0) (f := f) (c := c) (E := E) (m := m) I1 L hbind tk hW hr1 hbody hNg hva hda hca))).run pins1 s2 τ HZ D J ⟨q1, q2, q3, q4⟩
    · refine ⟨fun cls _ H' => PySem.W.exmOne X.K cls (.ref CS) = some true ∧ Q (.bl true) H', fun cls d τ' H' ⟨z1, z2⟩ => ⟨true, z1, fun _ b _ => z2, fun z => nomatch z⟩, h0 f, e2, e3, e4⟩
  refine wpAny_call (codeAny_mono rc fun r s2 hq => ?_)
  cases r with
  | error e =>
    obtain ⟨_, _, _, _, _, _, _, _, _, _, _, _, z⟩ := hq
    exact z.elim
  | ok fl =>
    cases fl with
    | ret u => exact I1.after hq
    | next => exact hq.elim
    | brk => exact hq.elim
    | cont => exact hq.elim
end
/-- a lambda of the text, and what its body makes of the slots -/
structure LamSpec where
  ar : Arguments
  bd : Expr
  sc : Scope
structure LamOk (T : List (Addr × Str)) (X : Cx) (k : Nat) (l : LamSpec) (m : M D) : Prop where
  L : LamX.LamS X.env.scope l.sc
  hdef : defaultsOf l.ar X.env = ([], [])
  hbind : ∀ (q : Str) (cl : List (Str × Addr)) (pm cv ctv : Value), bindArgs (PySem.W.kla_fn "<lambda>" q l.ar l.bd l.sc cl pm cv ctv) ⟨[], []⟩ = pure []
  body : LamBody T X k l.sc l.bd m
inductive LamsOk (T : List (Addr × Str)) (X : Cx) (k : Nat) : List Expr → List LamSpec → List (M D) → Prop
  | nil : LamsOk T X k [] [] []
  | cons {es : List Expr} {ls : List LamSpec} {ms : List (M D)} {l : LamSpec} {m : M D} {pos : Pos} : LamOk T X k l m → LamsOk T X k es ls ms → LamsOk T X k (.Lambda l.ar l.bd l.sc pos :: es) (l :: ls) (m :: ms)
/-- the lambdas as they stand -/
inductive LamsAt (X : Cx) (H : Hp) : List LamSpec → List V → Prop
  | nil : LamsAt X H [] []
  | cons {l : LamSpec} {ls : List LamSpec} {f c : Addr} {vs : List V} : H f = some (LamAt X l.ar l.bd l.sc c f) → H c = some (LamX.CodeO c (X.env.qual ++ "<lambda>")) → LamsAt X H ls vs → LamsAt X H (l :: ls) (.ref f :: vs)
def mRefs (i : Nat) (sub : Str → Option Bool) : List (M D) → M Fl
  | [], s => .ok .nx s
  | m :: ms, s => if i < s.length then (mRef sub m (s.set i .no)).bind fun b s => if b = true then mRefs i sub ms s else .ok (.rt (.bl false)) s else .bad
section
variable {T : List (Addr × Str)} {X : Cx} {W0 : WX} {fx : List Nat} {pos : Pos}
theorem LamsOk.lens {k : Nat} : ∀ {es : List Expr} {ls : List LamSpec} {ms : List (M D)}, LamsOk T X k es ls ms → es.length = ls.length ∧ ls.length = ms.length
  | _, _, _, .nil => ⟨rfl, rfl⟩
  | _, _, _, .cons _ r => by
    obtain ⟨h1, h2⟩ := LamsOk.lens r
    simp [h1, h2]
theorem LamsOk.at_ {k : Nat} : ∀ {es : List Expr} {ls : List LamSpec} {ms : List (M D)}, LamsOk T X k es ls ms → ∀ (n : Nat) (h1 : n < ls.length) (h2 : n < ms.length), LamOk T X k ls[n] ms[n]
  | _, _, _, .nil, n, h1, _ => absurd h1 (by simp)
  | _, _, _, .cons o r, 0, _, _ => o
  | _, _, _, .cons o r, n + 1, h1, h2 => LamsOk.at_ r n (by simpa using h1) (by simpa using h2)
theorem LamsAt.length {H : Hp} : ∀ {ls : List LamSpec} {vs : List V}, LamsAt X H ls vs → vs.length = ls.length
  | _, _, .nil => rfl
  | _, _, .cons _ _ r => by simp [LamsAt.length r]
theorem LamsAt.mono {H H1 : Hp} (k : ∀ b φ, H b = some (.ext φ) → H1 b = some (.ext φ)) : ∀ {ls : List LamSpec} {vs : List V}, LamsAt X H ls vs → LamsAt X H1 ls vs
  | _, _, .nil => .nil
  | _, _, .cons h1 h2 r => .cons (k _ _ h1) (k _ _ h2) (LamsAt.mono k r)
theorem LamsAt.get {H : Hp} : ∀ {ls : List LamSpec} {vs : List V} {n : Nat} {l : LamSpec}, LamsAt X H ls vs → ls[n]? = some l → ∃ f c, vs[n]? = some (.ref f) ∧ H f = some (LamAt X l.ar l.bd l.sc c f) ∧ H c = some (LamX.CodeO c (X.env.qual ++ "<lambda>"))
  | _, _, 0, _, .cons h1 h2 _, e => by cases e; exact ⟨_, _, rfl, h1, h2⟩
  | _, _, n + 1, l, .cons _ _ r, e => by
    obtain ⟨f, c, g1, g2, g3⟩ := LamsAt.get (n := n) (l := l) r (by simpa using e)
    exact ⟨f, c, by simpa using g1, g2, g3⟩
  | _, _, 0, _, .nil, e => by cases e
  | _, _, _ + 1, _, .nil, e => by cases e
theorem Grew.ext {H H1 : Hp} (t : LamX.Tabs T H) (g : Grew T H H1) : ∀ b φ, H b = some (.ext φ) → H1 b = some (.ext φ) := fun b φ e => g.keep b _ e fun p hp z => by
  obtain ⟨tb, g1, _⟩ := t p hp
  rw [← z, e] at g1
  cases g1
/-- lambdas take their place in a display as they stand -/
theorem LamsOk.stars {k : Nat} : ∀ {es : List Expr} {ls : List LamSpec} {ms : List (M D)}, LamsOk T X k es ls ms → ∀ e ∈ es, ∀ r, starEach (e :: r) X.env = (false, eval e X.env) :: starEach r X.env
  | _, _, _, .nil, e, h, r => by cases h
  | _, _, _, .cons (pos := pos) o t, e, h, r => by
    rcases List.mem_cons.mp h with z | z
    · subst z; rfl
    · exact t.stars e z r

theorem pa_lams {k : Nat} {c P : Addr} (TB : LamX.TabB X.base X.mg c P) (hcode : X.env.code = .ref c) (hm : (P, X.env.qual ++ "<lambda>") ∈ T) (hu : ∀ p ∈ T, p.1 = P → p.2 = X.env.qual ++ "<lambda>") : ∀ {es : List Expr} {ls : List LamSpec} {ms : List (M D)}, LamsOk T X k es ls ms →
    (∀ e ∈ es, ∀ r, starEach (e :: r) X.env = (false, eval e X.env) :: starEach r X.env) →
    PA X es (fun _ H Q => LamX.Tabs T H ∧ ∀ vs H1, Grew T H H1 → LamsAt X H1 ls vs → Q vs H1)
  | _, _, _, .nil, _ => ⟨fun pos pins s σ H Q I h => pa_nil.run pos pins s σ H Q I (h.2 [] H ⟨h.1, fun _ _ e _ => e, fun _ o e => ⟨o, e⟩⟩ .nil)⟩
  | _, _, _, .cons (es := es) (l := l) (pos := pos) o r, hs => by
    have p1 := pe_lam (T := T) (bd := l.bd) (pos := pos) TB hcode hm hu o.L o.hdef
    have p2 := pa_lams TB hcode hm hu r fun e he => hs e (List.mem_cons_of_mem _ he)
    refine ⟨fun pos pins s σ H Q I h => (pa_cons (p1) p2 (hs _ List.mem_cons_self es)).run pos pins s σ H Q I ⟨h.1, fun f c H1 hf hf1 hc1 g => ⟨g.tabs, fun vs H2 g2 at2 => ?_⟩⟩⟩
    have k2 := g2.ext g.tabs
    exact h.2 (.ref f :: vs) H2 (g.trans g2) (.cons (k2 _ _ hf1) (k2 _ _ hc1) at2)
/-- for call in (lambda: .., ..): if not refused(call): return False -/
theorem ms_refs {k i : Nat} {x a e y : Str} {g CS c P : Addr} {gd : FuncData} {st : Stmt} {Ng : List Str} {sub : Str → Option Bool} {es : List Expr} {ls : List LamSpec} {ms : List (M D)} {p py py0 pc pn pb pr pif pt : Pos} {kt jb : Nat}
    (TB : LamX.TabB X.base X.mg c P) (hcode : X.env.code = .ref c) (hmT : (P, X.env.qual ++ "<lambda>") ∈ T) (hu : ∀ p ∈ T, p.1 = P → p.2 = X.env.qual ++ "<lambda>")
    (Fg : Fun X.K x x st g gd) (Rd : RefDef x a e st) (Sg : FnScope Ng [a] (defScope st)) (hbg : L2.Binds X.K gd [a] []) (hg : Gl X x) (hm : X.mg x = some (.ref g)) (hNg : Ng[0]? = some a) (hva : Vis (defScope st) a)
    (hle : (defScope st).names.lookup e = some .globalImplicit) (hme : X.mg e = some (.ref CS)) (hsub : ∀ z C b, sub z = some b → X.mg z = some (.ref C) → PySem.W.exmOne X.K (.ref C) (.ref CS) = some b)
    (hr : Room (k + 2) X.A) (lo : LamsOk T X k es ls ms) (hp : PassesOwn (model X.prog X.w) X.A X.env X.xe) (hcalm : X.calm = true) (hNd : X.N.Nodup)
    (hN : X.N[i]? = some y) (hl : X.env.scope.names.lookup y = some .local) (hfi : i ∉ fx) (hle2 : es.length ≤ sizeLine)
    (hdx : (x == ("__debug__" : Str)) = false := by decide) (hdy : (y == ("__debug__" : Str)) = false := by decide) (hcy : (y == ("__classdict__" : Str)) = false := by decide) (hda : (a == ("__debug__" : Str)) = false := by decide) (hca : (a == ("__classdict__" : Str)) = false := by decide) (hde : (e == ("__debug__" : Str)) = false := by decide)
    (h0 : ∀ f : Addr, (L2.start Ng [V.ref f])[0]? = some (some (V.ref f))) (hs : starEach [Expr.Name y py] X.env = (false, eval (.Name y py) X.env) :: starEach [] X.env := by rfl) (hpl : (backTo pc (starEach [] X.env)).any (·.1) = false := by rfl)
    (hfold : ∀ z, foldedSetIterable (.Tuple es kt pt) X.env z = pure z := by intro _; rfl) (htrue : ∀ whole, isTrue (.Call (.Name x p) [.Name y py] [] pc) X.env whole = (do let v ← whole; standAt pc; holding [v] (truthy v)) := by intro _; rfl) :
    MS T X W0 fx (.For (.Name y py0) (.Tuple es kt pt) [.If (.UnaryOp .Not (.Call (.Name x p) [.Name y py] [] pc) pn) [.Return (some (.Constant (.bool false) jb pb)) pr] [] pif] [] pos) (mRefs i sub ms) := by
  -- the call, whichever lambda stands in the slot
  have call : PE X (.Call (.Name x p) [.Name y py] [] pc) (fun σ H Q => ∃ l m, LamOk T X k l m ∧ ∃ f c, σ[i]? = some (some (.ref f)) ∧ H f = some (LamAt X l.ar l.bd l.sc c f) ∧ H c = some (LamX.CodeO c (X.env.qual ++ "<lambda>")) ∧
      tMD (X.G T) (fun cls _ _ H' => PySem.W.exmOne X.K cls (.ref CS) = some true ∧ Q (.bl true) H') m σ H fun _ H' => Q (.bl false) H') :=
    ⟨fun pins s σ H Q I ⟨l, m, o, h⟩ => (pe_ref (T := T) (i := i) Fg Rd Sg hbg hg hm hNg hva hle hme hsub hr o.L o.hbind o.body hN (.inl hl) hdx hdy hcy hda hca hde h0 hs hpl).run pins s σ H Q I h⟩
  have body := pss_one (ps_if (pos := pif) (pt_not (pos := pn) (pt_val call htrue)) (pss_one (ps_ret (pos := pr) (pe_bl (b := false) (j := jb) (pos := pb)))) pss_nil)
  refine ⟨_, ps_for hp hcalm (pi_tup (pe_tup (pa_lams TB hcode hmT hu lo lo.stars))) (pg_name hNd hN (.inl hl) (.inr hl)) body hfold, fun σ W H s D r q => ?_⟩
  obtain ⟨len1, len2⟩ := lo.lens
  refine ⟨r.tabs.t, fun vs H1 gr lv => ⟨by rw [lv.length, ← len1]; exact hle2, fun t ht => ?_⟩⟩
  -- the heap behind the display
  have a1 : Aft (X.G T) s σ W H s W H1 := by
    refine .over r ⟨Same.refl _, fun b o e _ z => gr.keep b o e fun p hp q => ?_, fun b o _ w _ => w, gr.there⟩ (fun b o e => gr.keep b o (r.sub b o e) fun p hp q => ?_) ⟨gr.tabs, r.tabs.w⟩
    · obtain ⟨tb, g1, _⟩ := r.tabs.t p hp
      rw [← q, e] at g1
      cases g1
      cases z
    · have w := r.tabs.w p hp
      rw [← q, e] at w
      cases w
  have a2 := a1.trans (Aft.newO (u := .tup vs) a1.rel ht)
  have lv2 : LamsAt X (upd H1 t (.tup vs)) ls vs := lv.mono fun b φ e => same_new ht b _ e
  have st : upd H1 t (.tup vs) t = some (.tup vs) := upd_same
  refine ⟨t, by rfl, ⟨vs, SqT.of st⟩, fun n m σ' H' => m = ls.length - n ∧ n ≤ ls.length ∧ H' t = some (.tup vs) ∧ LamsAt X H' ls vs ∧ ∃ s' W', AftS (X.G T) fx s σ W H s' σ' W' H' ∧ PostS (X.G T) W0 fx s' σ' W' H' (mRefs i sub (ms.drop n) s') D,
    ⟨_, rfl, Nat.zero_le _, st, lv2, s, W, a2.toS, PostS.after (fx := fx) a2.toS q⟩, ?_⟩
  rintro n m σ' H' ⟨rfl, hn, tt, lt, s', W', a', q'⟩
  by_cases hl2 : ls.length ≤ n
  · refine .inl ⟨⟨vs, SqT.of tt, by rw [lt.length]; exact hl2⟩, ?_⟩
    rw [List.drop_eq_nil_of_le (by omega)] at q'
    exact q' σ' W' H' (.refl a'.rel)
  have hl2 : n < ls.length := by omega
  have hm2 : n < ms.length := by omega
  obtain ⟨f, c, g1, g2, g3⟩ := lt.get (List.getElem?_eq_getElem hl2)
  have ok : LamOk T X k ls[n] ms[n] := lo.at_ n hl2 hm2
  rw [List.drop_eq_getElem_cons hm2] at q'
  unfold mRefs at q'
  refine .inr ⟨⟨vs, .ref f, SqT.of tt, g1⟩, fun σ2 H2 => H2 t = some (.tup vs) ∧ LamsAt X H2 ls vs ∧ ∃ s2 W2, AftS (X.G T) fx s σ W H s2 σ2 W2 H2 ∧ PostS (X.G T) W0 fx s2 σ2 W2 H2 (mRefs i sub (ms.drop (n + 1)) s2) D,
    fun σ2 H2 ⟨z1, z2, s2, W2, z3, z4⟩ => ⟨_, by omega, rfl, hl2, z1, z2, s2, W2, z3, z4⟩, fun v H3 yv => ?_⟩
  obtain ⟨e3, yv⟩ := yv
  subst e3
  have ev := yv vs (SqT.of tt)
  rw [g1] at ev
  cases ev
  split at q'
  rotate_left
  · exact q'.elim
  rename_i hi
  have b1 : AftS (X.G T) fx s' σ' W' H3 (s'.set i .no) (σ'.set i (some (.ref f))) W' H3 := .set a'.rel hfi trivial fun o a z => nomatch z
  have a3 := a'.trans b1
  have q3 := PostS.after b1 q'
  have slot : (σ'.set i (some (V.ref f)))[i]? = some (some (V.ref f)) := List.getElem?_set_self (by rw [← a'.rel.len]; exact hi)
  -- what the lambda does
  refine ⟨_, _, ok, f, c, slot, g2, g3, s'.set i .no, W', b1.rel, ?_⟩
  have keepT : ∀ {s5 W5 H5}, Aft (X.G T) (s'.set i .no) (σ'.set i (some (.ref f))) W' H3 s5 W5 H5 → H5 t = some (.tup vs) ∧ LamsAt X H5 ls vs := fun {s5 W5 H5} a5 =>
    ⟨a5.stp.keep _ _ tt (fun z => z.notTup b1.rel tt) rfl, lt.mono fun b φ e => a5.stp.keep _ _ e (fun z => by
      obtain ⟨u, z1, _, _, z4⟩ := z.lt3 b1.rel
      rw [e] at z1
      exact z4 φ (Option.some.inj z1).symm) rfl⟩
  cases em : ms[n] (s'.set i .no) with
  | bad => simp only [mRef, em] at q3; exact q3
  | ok d s5 =>
    simp only [mRef, em, R.bind_ok, if_neg Bool.false_ne_true] at q3
    intro W5 H5 a5 v hv
    refine ⟨false, rfl, ?_⟩
    refine iteT ?_
    exact q3 _ W5 H5 _ a5.toS (.bl false)
  | ex y0 d s5 =>
    simp only [mRef, em] at q3
    intro W5 H5 cl od a5 hx
    obtain ⟨C, rfl, hC, _⟩ := id hx
    cases es1 : sub y0 with
    | none => simp only [es1] at q3; exact q3.elim
    | some b =>
      cases b with
      | false => simp only [es1] at q3; exact q3.elim
      | true =>
        simp only [es1, R.bind_ok, if_true] at q3
        refine ⟨hsub y0 C true es1 hC, true, rfl, ?_⟩
        refine iteF ?_
        obtain ⟨k1, k2⟩ := keepT a5
        exact ⟨k1, k2, s5, W5, a3.trans a5.toS, PostS.after a5.toS q3⟩
end

/-! ### what the generator's texts name -/
def Def (P : Program) (w : World) (K : PySem.W.Frag) (mg : Str → Option Value) (base : Heap) (T : List (Addr × Str)) (x : Str) (ps : List Str) (k : Nat) (F : Fn) : Prop :=
  ∃ f fd, mg x = some (.ref f) ∧ PySem.W.keepIn K (.ref f) = true ∧ L2.Binds K fd ps [] ∧ FnOk P w K mg base (L2.CX P w) k f fd ps (spF ⟨K, mg, T⟩ ps.length F)
def DefO (P : Program) (w : World) (K : PySem.W.Frag) (mg : Str → Option Value) (base : Heap) (T : List (Addr × Str)) (x : Str) (ps : List Str) (k : Nat) (F : S → R MO) : Prop :=
  ∃ f fd, mg x = some (.ref f) ∧ PySem.W.keepIn K (.ref f) = true ∧ L2.Binds K fd ps [] ∧ FnOk P w K mg base (L2.CX P w) k f fd ps (spFO ⟨K, mg, T⟩ ps.length F)
/-- an own exception class over ValueError -/
structure ExcIs (K : PySem.W.Frag) (mg : Str → Option Value) (x : Str) (C : Addr) : Prop where
  mg : mg x = some (.ref C)
  ex : PySem.W.excIn K C [.type "ValueError", .type "Exception", .type "BaseException", .type "object"] "ValueError.__new__" = true
  kp : PySem.W.keepIn K (.ref C) = true
  sub : PySem.W.subIn K (.ref C) (.type "BaseException") = some true
  ty : PySem.W.typeIn K (.ref C) = some (.type "type")
def ExcF (K : PySem.W.Frag) (mg : Str → Option Value) (x : Str) : Prop := ∃ C, ExcIs K mg x C
theorem fnok_bad {P : Program} {w : World} {K : PySem.W.Frag} {mg : Str → Option Value} {base : Heap} {CX : CXT} {k : Nat} {f : Addr} {fd : FuncData} {ps : List Str} {G : En} {n : Nat} (h : ps.length = n) : FnOk P w K mg base CX k f fd ps (spF G n fun _ => .bad) :=
  ⟨spF_len h, fun A outer s H args us vs Q E hr e0 hb r hsp => by
    obtain ⟨_, _, _, _, q⟩ := hsp
    exact q.elim⟩
/-- x += e of ints -/
def oAddI0 : D → D → Option D
  | .int i, .int j => some (.int (i + j))
  | _, _ => none
theorem opd_ip_add {G : En} : OpD G (ipI fun i j => i + j) oAddI0 := fun W H x y d e z Q hs hx hy hz q => by
  unfold oAddI0 at hz
  split at hz
  · cases hz
    exact ⟨_, _, hx.int, hy.int, q.here hs (.int _)⟩
  · cases hz
theorem md_globI {T : List (Addr × Str)} {X : Cx} {W0 : WX} {x : Str} {i : Int} {t : Tok} {pos : Pos} (hg : Gl X x) (hm : X.mg x = some (.int i t)) (hdb : (x == ("__debug__" : Str)) = false := by decide) : MD T X W0 (.Name x pos) (mC (.int i)) := md_glob (v := .int i) hg hm ⟨_, rfl⟩ (fun _ => .int i) hdb
theorem md_globS {T : List (Addr × Str)} {X : Cx} {W0 : WX} {x : Str} {i : Str} {t : Tok} {pos : Pos} (hg : Gl X x) (hm : X.mg x = some (.str i t)) (hdb : (x == ("__debug__" : Str)) = false := by decide) : MD T X W0 (.Name x pos) (mC (.str i)) := md_glob (v := .str i) hg hm ⟨_, rfl⟩ (fun _ => .str i) hdb
theorem md_globR {T : List (Addr × Str)} {X : Cx} {W0 : WX} {x : Str} {a : Addr} {d : D} {pos : Pos} (hg : Gl X x) (hm : X.mg x = some (.ref a)) (hd : ∀ W, Rep (X.G T) W (.ref a) d) (hdb : (x == ("__debug__" : Str)) = false := by decide) : MD T X W0 (.Name x pos) (mC d) := md_glob (v := .ref a) hg hm rfl hd hdb
end Mv

set_option Elab.async false
set_option linter.all false
set_option maxRecDepth 100000
set_option maxHeartbeats 2000000
/-! Mv13: a def that makes lambdas; the end of a law. -/
namespace Mv
open PySem PySem.Spec PyProof.Rows L2

/-- a def whose code object stands at c -/
structure FunC (K : PySem.W.Frag) (x qual : Str) (st : Stmt) (f : Addr) (fd : FuncData) (c : Addr) : Prop where
  ex : ∃ (oc : Value) (od : Option Addr) (kV doc pm : Value) (an : Option Addr) (ct : Value) (osl : Array (Option Value)),
    fd = PySem.W.fnOf x qual (defArgs st) (defBody st) (defScope st) .none kV doc pm an (.ref c) ct ∧ K.lookup f = some ⟨oc, od, .func fd, osl⟩ ∧ PySem.W.codeIn K (.ref c) qual = true
section
variable {P : Program} {w : World} {K : PySem.W.Frag} {mg : Str → Option Value} {base : Heap} {T : List (Addr × Str)}
theorem fn_okC {x qual : Str} {st : Stmt} {f c : Addr} {fd : FuncData} {N ps : List Str} {j k n : Nat} {io : Option Nat} {m : M Fl} (Fd : FunC K x qual st f fd c) (Sc : FnScope N ps (defScope st)) (hn : ps.length = n) (hN : N.length = n + k)
    (hbody : ∀ (A : Around) (outer : List Env) (s : Shared) (H : Hp) (E : XK), Room j (A.deeper (envOfC qual (defScope st) s.heap.objs.size f (.ref c))) → ∀ W0, Takes (cxOf (L2.CX P w) P w K mg base N qual (defScope st) f (.ref c) A outer s H E) W0 →
      MSs T (cxOf (L2.CX P w) P w K mg base N qual (defScope st) f (.ref c) A outer s H E) W0 (fxOf io) (defBody st) m) : FnOk P w K mg base (L2.CX P w) (j + 1) f fd ps (spF ⟨K, mg, T⟩ n (mFun io k m)) := by
  obtain ⟨oc, od, kV, doc, pm, an, ct, osl, rfl, lk, hcd⟩ := Fd.ex
  refine fn_of lk hcd Sc (spF_len hn) fun A outer s H vs Q E hr hsp => ?_
  obtain ⟨W, as, hl, r, q⟩ := hsp
  obtain ⟨t, pt, ht⟩ := (hbody A outer s H E hr (fun cls d _ H => E cls d H) (takes_of rfl rfl rfl rfl)).ex
  have rs : RelS ⟨K, mg, T⟩ W H (L2.start N vs) (as ++ List.replicate k .no) := start_rel r (by omega)
  refine ⟨t, pt, ht _ W H (as ++ List.replicate k Sl.no) _ rs ?_⟩
  unfold mFun at q
  split at q
  · rename_i ok
    cases em : m (as ++ List.replicate k .no) with
    | bad => rw [em] at q; exact q
    | ex c d s' =>
      rw [em] at q
      exact fun σ' W' H' cl od a hx => q W' H' cl od (fin_aft ok r (by omega) a) hx
    | ok f s' =>
      rw [em] at q
      cases f with
      | nx => exact fun σ' W' H' a => q W' H' (fin_aft ok r (by omega) a) _ .non
      | rt d => exact fun σ' W' H' v a hv => q W' H' (fin_aft ok r (by omega) a) v hv
      | ro o => exact q.elim
      | bk => exact q.elim
      | ct => exact q.elim
  · exact q.elim
theorem fnok_badO {P : Program} {w : World} {K : PySem.W.Frag} {mg : Str → Option Value} {base : Heap} {CX : CXT} {k : Nat} {f : Addr} {fd : FuncData} {ps : List Str} {G : En} {n : Nat} (h : ps.length = n) : FnOk P w K mg base CX k f fd ps (spFO G n fun _ => .bad) :=
  ⟨fun vs H Q E ⟨_, _, e, _⟩ => e.trans h.symm, fun A outer s H args us vs Q E hr e0 hb r hsp => by
    obtain ⟨_, _, _, _, q⟩ := hsp
    exact q.elim⟩
/-- what one except clause takes: its own class alone -/
def subOf (x : Str) : Str → Option Bool := fun y => if y = x then some true else none
theorem sub_self {K : PySem.W.Frag} {mg : Str → Option Value} {x z : Str} {S C : Addr} {b : Bool} (m : mg x = some (.ref S)) (h1 : PySem.W.subIn K (.ref S) (.type "BaseException") = some true) (h3 : PySem.W.typeIn K (.ref S) = some (.type "type")) (h2 : PySem.W.isClsIn K S = true) (h4 : PySem.W.subIn K (.ref S) (.ref S) = some true)
    (hz : subOf x z = some b) (hm : mg z = some (.ref C)) : PySem.W.exmOne K (.ref C) (.ref S) = some b := by
  unfold subOf at hz
  split at hz
  · rename_i e
    subst e
    rw [m] at hm
    cases hm
    cases hz
    have e1 : (PySem.W.subIn K (.ref S) (.type "BaseException") == some true) = true := by rw [h1] <;> rfl
    have e2 : ((PySem.W.clsIn K S).isSome && PySem.W.typeIn K (.ref S) == some (.type "type")) = true := by
      have h2' : (PySem.W.clsIn K S).isSome = true := h2
      rw [h2', h3] <;> rfl
    show (if (PySem.W.subIn K (.ref S) (.type "BaseException") == some true) = true then (if ((PySem.W.clsIn K S).isSome && PySem.W.typeIn K (.ref S) == some (.type "type")) = true then PySem.W.subIn K (.ref S) (.ref S) else none) else none) = some true
    rw [if_pos e1, if_pos e2]
    exact h4
  · cases hz
/-! ### the end -/
theorem rep_ints {G : En} {W : Hp} : ∀ ns : List Int, Reps G W (ns.map V.int) (ns.map D.int)
  | [] => .nil
  | n :: ns => .cons (.int n) (rep_ints ns)
/-- the heap without the tables of code objects -/
def noTb (H : Hp) : Hp := fun b => match H b with
  | some (.tbl _) => none
  | o => o
theorem law_sp {K : PySem.W.Frag} {mg : Str → Option Value} {T : List (Addr × Str)} {F : Fn} {H : Hp} {a : Addr} {ns : List Int} (hT : ∀ p ∈ T, H p.1 = some (.tbl #[])) (hS : SqL K H a (ns.map V.int)) (h : ∃ s, F [.fz (.rls (ns.map .int))] = .ok (.bl true) s) :
    spF ⟨K, mg, T⟩ 1 F [.ref a] H (fun v _ => v = .bl true) fun _ _ _ => False := by
  have keep : ∀ b o, H b = some o → (∀ t, o ≠ .tbl t) → noTb H b = some o := fun b o e n => by
    unfold noTb
    rw [e]
    cases o with
    | tbl t => exact (n t rfl).elim
    | _ => rfl
  have hS2 : SqL K (noTb H) a (ns.map V.int) := by
    rcases hS with (z | ⟨o, z⟩) | z
    · exact .inl (.inl (keep _ _ z fun t q => nomatch q))
    · exact .inl (.inr ⟨o, keep _ _ z fun t q => nomatch q⟩)
    · exact .inr z
  obtain ⟨s, e⟩ := h
  refine ⟨noTb H, [.fz (.rls (ns.map .int))], rfl, ⟨fun b o z => ?_, ⟨fun p hp => .nil (hT p hp), fun p hp => by unfold noTb; rw [hT p hp]⟩, rfl, fun i sl z => ?_, fun i j o o' b z => ?_⟩, ?_⟩
  · unfold noTb at z
    split at z
    · cases z
    · exact z
  · cases i with
    | zero =>
      cases z
      exact ⟨.ref a, rfl, .rls hS2 (rep_ints ns)⟩
    | succ i => simp at z
  · cases i with
    | zero => simp at z
    | succ i => simp at z
  · rw [e]
    intro W' H' _ v hv
    cases hv
    rfl
theorem mv_walk {l : PySem.W.OpenLaw} {k : Nat} {q : Program} {loose : List Str} {XP : (Str → Option Value) → Heap → Prop} {YP : World → Heap → Prop} {d : DefRec} {K : Params → PySem.W.Frag} {F : Fn}
    (hpure : ∀ ns : List Int, ns.length ≤ 63 → (∀ z ∈ ns, Builtin.Int.intBits z ≤ 1048576) → ∃ s, F [.fz (.rls (ns.map .int))] = .ok (.bl true) s)
    (hn : l.most = some 63) (hdf : d.params.defaults = []) (hr : Room k callerA) (hrec : ((recsOf q).any fun e => e.name == d.name) = true) (hY : ∀ (w : World) (h : Heap), YP w h → (K w.params).In h)
    (F0 : ∀ (w : World) (mg : Str → Option Value) (fa : Addr) (h : Heap), YP w h → (K w.params).In h → h.Ns mainGlobals mg → mg d.name = some (.ref fa) → LamX.OwnTab (K w.params) fa h →
      ∃ (fd : FuncData) (cs : List (Addr × Addr)) (T : List (Addr × Str)), (∀ p ∈ T, p.1 ∈ cs.map (·.2)) ∧ (∀ p ∈ cs, h.get? p.2 = some { cls := .none, data := .fields #[] }) ∧ (∀ p ∈ cs, (K w.params).lookup p.2 = none) ∧ (∀ p ∈ cs, PySem.W.CodeHd h p.1 p.2) ∧
        (∀ (s : Shared) (u : Value), BindsTo s fd ⟨[u], []⟩ [("script", u)]) ∧ ∀ base : Heap, (K w.params).In base → base.Ns mainGlobals mg → (∀ p ∈ cs, LamX.TabB base mg p.1 p.2) → FnOk l.prog w (K w.params) mg base (L2.CX l.prog w) k fa fd ["script"] (spF ⟨K w.params, mg, T⟩ 1 F)) :
    PySem.W.WalkO q loose XP YP l.row.toRowW d [] (fun f vs => PySem.call f vs) := by
  refine LamX.walk_ofOwn (n := 63) (k := k) (x := "script") (CX := fun w => L2.CX l.prog w) hn (by decide) hdf hr hrec hY (fun w mg fa h Y KX G hmg own => ?_) (fun w H s e s' z => ?_)
  · obtain ⟨fd, cs, T, h1, h2, h3, h4, h5, h6⟩ := F0 w mg fa h Y KX G hmg own
    refine ⟨fd, cs, _, h2, h3, h4, h5, fun H a ns hl hb hH hS => law_sp (T := T) (fun p hp => ?_) hS (hpure ns hl hb), h6⟩
    obtain ⟨p2, hp2, e⟩ := List.mem_map.mp (h1 p hp)
    rw [← e]
    exact hH p2 hp2
  · obtain ⟨_, _, _, _, _, _, _, _, _, _, _, _, z⟩ := z
    exact z.elim
/-- the code object's head, from what is known of it and that the table is empty -/
theorem own_tab {K : PySem.W.Frag} {fa c P : Addr} {h : Heap} {oc e : Value} {od dd : Option Addr} {fd : FuncData} {osl sl : Array (Option Value)} {vs : Array Value} (own : LamX.OwnTab K fa h) (lk : K.lookup fa = some ⟨oc, od, .func fd, osl⟩) (hc : fd.code = .ref c) (lc : K.lookup c = some ⟨e, dd, .fields vs, sl⟩) (hv : vs[11]? = some (.ref P)) :
    h.get? P = some { cls := .none, data := .fields #[] } := own c P _ fd e dd vs sl lk rfl hc lc hv
end
end Mv

set_option Elab.async false
set_option linter.all false
set_option maxRecDepth 100000
/-! Mv14: what the mirrors make of slots, by rewriting: each combinator at its slots (printed by mk14.py). -/
namespace Mv
open PySem PySem.Spec PyProof.Rows L2

@[simp] theorem R.bind_ite {α β : Type} {c : Prop} [Decidable c] (x y : R α) (f : α → S → R β) : (if c then x else y).bind f = if c then x.bind f else y.bind f := by split <;> rfl
@[simp] theorem R.bind_cond {α β : Type} (c : Bool) (x y : R α) (f : α → S → R β) : (bif c then x else y).bind f = bif c then x.bind f else y.bind f := by cases c <;> rfl
@[simp high] theorem R.bind_okX {α β : Type} (a : α) (s : S) (f : α → S → R β) : (R.ok a s).bind f = f a s := id rfl
@[simp] theorem R.nox_okE {α : Type} (a : α) (s : S) : (R.ok a s).nox = .ok a s := id rfl
/-- what an option gives -/
def R.opt {α : Type} (s : S) : Option α → R α
  | some a => .ok a s
  | none => .bad
@[simp] theorem opt_some {α : Type} (s : S) (a : α) : R.opt s (some a) = .ok a s := id rfl
@[simp] theorem opt_ite {α : Type} {c : Prop} [Decidable c] (s : S) (a b : Option α) : R.opt s (if c then a else b) = if c then R.opt s a else R.opt s b := by split <;> rfl

def kAsD  : MO → S → R D := fun o s => .ok o.d s
@[simp] theorem kAsD_e0  (o : MO) (s : S) : kAsD  (o) (s) = .ok o.d s := id rfl
@[simp] theorem e_asD (m : M MO) (s : S) : asD m s = (m s).bind kAsD := id rfl
def kAsP  : D → S → R Pl := fun d s => .ok (.dat d) s
@[simp] theorem kAsP_e0  (d : D) (s : S) : kAsP  (d) (s) = .ok (.dat d) s := id rfl
@[simp] theorem e_asP (m : M D) (s : S) : asP m s = (m s).bind kAsP := id rfl
@[simp] theorem e_mC (d : D) (s : S) : mC d s = .ok d s := id rfl
def slP (i : Nat) (s : S) : Option Sl → R Pl
  | some (.fz _) => .ok (.sl i) s
  | some (.ow _) => .ok (.sl i) s
  | _ => .bad
@[simp] theorem e_pS (i : Nat) (s : S) : pS i s = slP i s s[i]? := by unfold pS slP; rfl
@[simp] theorem slP_fz (i : Nat) (s : S) (d : D) : slP i s (some (.fz d)) = .ok (.sl i) s := id rfl
@[simp] theorem slP_ow (i : Nat) (s : S) (d : MO) : slP i s (some (.ow d)) = .ok (.sl i) s := id rfl
def slV (i : Nat) (s : S) : Option Sl → R D
  | some (.fz d) => .ok d s
  | some (.ow o) => .ok o.d (s.set i (.fz o.d))
  | _ => .bad
@[simp] theorem e_mV (i : Nat) (s : S) : mV i s = slV i s s[i]? := by unfold mV slV; rfl
@[simp] theorem slV_fz (i : Nat) (s : S) (d : D) : slV i s (some (.fz d)) = .ok d s := id rfl
@[simp] theorem slV_ow (i : Nat) (s : S) (o : MO) : slV i s (some (.ow o)) = .ok o.d (s.set i (.fz o.d)) := id rfl
def slG : Option Sl → Option D
  | some (.fz d) => some d
  | some (.ow o) => some o.d
  | _ => none
@[simp] theorem get_dat (s : S) (d : D) : Pl.get s (.dat d) = some d := id rfl
@[simp] theorem get_sl (s : S) (i : Nat) : Pl.get s (.sl i) = slG s[i]? := by unfold Pl.get slG; rfl
@[simp] theorem slG_fz (d : D) : slG (some (.fz d)) = some d := id rfl
@[simp] theorem slG_ow (o : MO) : slG (some (.ow o)) = some o.d := id rfl
@[simp] theorem MO_lst (xs : List D) : (MO.lst xs).d = .lst xs := id rfl
@[simp] theorem gets_nil (s : S) : gets s [] = some [] := id rfl
@[simp] theorem gets_cons (s : S) (p : Pl) (ps : List Pl) (d : D) (ds : List D) (h : p.get s = some d) (h2 : gets s ps = some ds) : gets s (p :: ps) = some (d :: ds) := by unfold gets; rw [h, h2]

def kOp (f : D → D → Option D) (s : S) : Option D → Option D → R D
  | some d, some e => R.opt s (f d e)
  | _, _ => .bad
@[simp] theorem kOp_e (f : D → D → Option D) (s : S) (d e : D) : kOp f s (some d) (some e) = R.opt s (f d e) := id rfl
def k2b (f : D → D → Option D) (x : Pl) : Pl → S → R D := fun y s => kOp f s (x.get s) (y.get s)
@[simp] theorem k2b_e0 (f : D → D → Option D) (x : Pl) (y : Pl) (s : S) : k2b f x (y) (s) = kOp f s (x.get s) (y.get s) := id rfl
def k2a (f : D → D → Option D) (b : M Pl) : Pl → S → R D := fun x s => (b s).bind (k2b f x)
@[simp] theorem k2a_e0 (f : D → D → Option D) (b : M Pl) (x : Pl) (s : S) : k2a f b (x) (s) = (b s).bind (k2b f x) := id rfl
@[simp] theorem e_m2 (f : D → D → Option D) (a b : M Pl) (s : S) : m2 f a b s = (a s).bind (k2a f b) := by
  unfold m2 k2a k2b
  congr 1
  funext x s
  congr 1
  funext y s
  unfold kOp R.opt
  cases x.get s with
  | none => rfl
  | some d =>
    cases y.get s with
    | none => rfl
    | some e => dsimp only; cases f d e <;> rfl
def kOpF (f : D → D → Option MO) (s : S) : Option D → Option D → R MO
  | some d, some e => R.opt s (f d e)
  | _, _ => .bad
@[simp] theorem kOpF_e (f : D → D → Option MO) (s : S) (d e : D) : kOpF f s (some d) (some e) = R.opt s (f d e) := id rfl
def k2bF (f : D → D → Option MO) (x : Pl) : Pl → S → R MO := fun y s => kOpF f s (x.get s) (y.get s)
@[simp] theorem k2bF_e0 (f : D → D → Option MO) (x : Pl) (y : Pl) (s : S) : k2bF f x (y) (s) = kOpF f s (x.get s) (y.get s) := id rfl
def k2aF (f : D → D → Option MO) (b : M Pl) : Pl → S → R MO := fun x s => (b s).bind (k2bF f x)
@[simp] theorem k2aF_e0 (f : D → D → Option MO) (b : M Pl) (x : Pl) (s : S) : k2aF f b (x) (s) = (b s).bind (k2bF f x) := id rfl
@[simp] theorem e_m2F (f : D → D → Option MO) (a b : M Pl) (s : S) : m2F f a b s = (a s).bind (k2aF f b) := by
  unfold m2F k2aF k2bF
  congr 1
  funext x s
  congr 1
  funext y s
  unfold kOpF R.opt
  cases x.get s with
  | none => rfl
  | some d =>
    cases y.get s with
    | none => rfl
    | some e => dsimp only; cases f d e <;> rfl
def kB  : D → S → R Bool := fun d s => match d with
  | .bl b => .ok b s
  | _ => .bad
@[simp] theorem kB_e0  (b : Bool) (s : S) : kB  (.bl b) (s) = .ok b s := id rfl
@[simp] theorem e_mB (m : M D) (s : S) : mB m s = (m s).bind kB := by
  unfold mB kB
  rfl
def kC3 (g : D → D → Option D) (y : Pl) : Pl → S → R D := fun z s => kOp g s (y.get s) (z.get s)
@[simp] theorem kC3_e (g : D → D → Option D) (y z : Pl) (s : S) : kC3 g y z s = kOp g s (y.get s) (z.get s) := id rfl
def kC2 (g : D → D → Option D) (c : M Pl) (y : Pl) : D → S → R D := fun d s => match d with
  | .bl k => if k = true then (c s).bind (kC3 g y) else .ok (.bl false) s
  | _ => .bad
@[simp] theorem kC2_e (g : D → D → Option D) (c : M Pl) (y : Pl) (k : Bool) (s : S) : kC2 g c y (.bl k) s = if k = true then (c s).bind (kC3 g y) else .ok (.bl false) s := id rfl
def kC1 (f g : D → D → Option D) (c : M Pl) (x : Pl) : Pl → S → R D := fun y s => (kOp f s (x.get s) (y.get s)).bind (kC2 g c y)
@[simp] theorem kC1_e (f g : D → D → Option D) (c : M Pl) (x y : Pl) (s : S) : kC1 f g c x y s = (kOp f s (x.get s) (y.get s)).bind (kC2 g c y) := id rfl
def kC0 (f g : D → D → Option D) (b c : M Pl) : Pl → S → R D := fun x s => (b s).bind (kC1 f g c x)
@[simp] theorem kC0_e (f g : D → D → Option D) (b c : M Pl) (x : Pl) (s : S) : kC0 f g b c x s = (b s).bind (kC1 f g c x) := id rfl
@[simp] theorem e_mChain (f g : D → D → Option D) (a b c : M Pl) (s : S) : mChain f g a b c s = (a s).bind (kC0 f g b c) := by
  unfold mChain kC0 kC1
  congr 1
  funext x s
  congr 1
  funext y s
  unfold kOp R.opt kC2 kC3 kOp R.opt
  cases x.get s with
  | none => rfl
  | some d =>
    cases y.get s with
    | none => rfl
    | some e =>
      dsimp only
      cases f d e with
      | none => rfl
      | some z =>
        cases z <;> first | rfl | skip
        simp only [R.bind_ok]
        split
        · congr 1
          funext z s
          cases y.get s with
          | none => rfl
          | some d =>
            cases z.get s with
            | none => rfl
            | some e => dsimp only; cases g d e <;> rfl
        · rfl
def kTr (s : S) : Option D → R Bool
  | some d => R.opt s d.tru
  | none => .bad
@[simp] theorem kTr_e (s : S) (d : D) : kTr s (some d) = R.opt s d.tru := id rfl
def kTru : Pl → S → R Bool := fun x s => kTr s (x.get s)
@[simp] theorem kTru_e (x : Pl) (s : S) : kTru x s = kTr s (x.get s) := id rfl
@[simp] theorem e_mTru (m : M Pl) (s : S) : mTru m s = (m s).bind kTru := by
  unfold mTru
  congr 1
  funext x s
  unfold kTru kTr R.opt
  cases x.get s with
  | none => rfl
  | some d => dsimp only; cases d.tru <;> rfl
def kNot  : Bool → S → R Bool := fun b s => .ok (!b) s
@[simp] theorem kNot_e0  (b : Bool) (s : S) : kNot  (b) (s) = .ok (!b) s := id rfl
@[simp] theorem e_mNot (m : M Bool) (s : S) : mNot m s = (m s).bind kNot := id rfl
def kAnd (b : M Bool) : Bool → S → R Bool := fun x s => if x = true then b s else .ok false s
@[simp] theorem kAnd_e0 (b : M Bool) (x : Bool) (s : S) : kAnd b (x) (s) = if x = true then b s else .ok false s := id rfl
@[simp] theorem e_mAnd (a b : M Bool) (s : S) : mAnd a b s = (a s).bind (kAnd b) := id rfl
def kOr (b : M Bool) : Bool → S → R Bool := fun x s => if x = true then .ok true s else b s
@[simp] theorem kOr_e0 (b : M Bool) (x : Bool) (s : S) : kOr b (x) (s) = if x = true then .ok true s else b s := id rfl
@[simp] theorem e_mOr (a b : M Bool) (s : S) : mOr a b s = (a s).bind (kOr b) := id rfl
def kAndV (b : M D) : D → S → R D := fun d s => match d with
  | .bl c => if c = true then b s else .ok (.bl false) s
  | _ => .bad
@[simp] theorem kAndV_e0 (b : M D) (c : Bool) (s : S) : kAndV b (.bl c) (s) = if c = true then b s else .ok (.bl false) s := id rfl
@[simp] theorem e_mAndV (a b : M D) (s : S) : mAndV a b s = (a s).bind (kAndV b) := by
  unfold mAndV kAndV
  rfl
def kOrV (b : M D) : D → S → R D := fun d s => match d with
  | .bl c => if c = true then .ok (.bl true) s else b s
  | _ => .bad
@[simp] theorem kOrV_e0 (b : M D) (c : Bool) (s : S) : kOrV b (.bl c) (s) = if c = true then .ok (.bl true) s else b s := id rfl
@[simp] theorem e_mOrV (a b : M D) (s : S) : mOrV a b s = (a s).bind (kOrV b) := by
  unfold mOrV kOrV
  rfl
def kNotV  : D → S → R D := fun d s => match d with
  | .bl c => .ok (.bl !c) s
  | _ => .bad
@[simp] theorem kNotV_e0  (c : Bool) (s : S) : kNotV  (.bl c) (s) = .ok (.bl !c) s := id rfl
@[simp] theorem e_mNotV (a : M D) (s : S) : mNotV a s = (a s).bind kNotV := by
  unfold mNotV kNotV
  rfl
def kIf {α : Type} (a b : M α) : Bool → S → R α := fun x s => if x = true then a s else b s
@[simp] theorem kIf_e0 {α : Type} (a b : M α) (x : Bool) (s : S) : kIf a b (x) (s) = if x = true then a s else b s := id rfl
@[simp] theorem e_mIf {α : Type} (c : M Bool) (a b : M α) (s : S) : mIf c a b s = (c s).bind (kIf a b) := id rfl
@[simp] theorem e_mNo  (s : S) : mNo  s = .ok none s := id rfl
def kSome  : D → S → R (Option Int) := fun d s => match d with
  | .int i => .ok (some i) s
  | _ => .bad
@[simp] theorem kSome_e0  (i : Int) (s : S) : kSome  (.int i) (s) = .ok (some i) s := id rfl
@[simp] theorem e_mSome (m : M D) (s : S) : mSome m s = (m s).bind kSome := by
  unfold mSome kSome
  rfl
def kSl2 (f : D → Option Int → Option Int → Option D) (i j : Option Int) (s : S) : Option D → R D
  | some d => R.opt s (f d i j)
  | none => .bad
@[simp] theorem kSl2_e (f : D → Option Int → Option Int → Option D) (i j : Option Int) (s : S) (d : D) : kSl2 f i j s (some d) = R.opt s (f d i j) := id rfl
def kSl1 (f : D → Option Int → Option Int → Option D) (x : Pl) (i : Option Int) : Option Int → S → R D := fun j s => kSl2 f i j s (x.get s)
@[simp] theorem kSl1_e (f : D → Option Int → Option Int → Option D) (x : Pl) (i j : Option Int) (s : S) : kSl1 f x i j s = kSl2 f i j s (x.get s) := id rfl
def kSl0 (f : D → Option Int → Option Int → Option D) (h : M (Option Int)) (x : Pl) : Option Int → S → R D := fun i s => (h s).bind (kSl1 f x i)
@[simp] theorem kSl0_e (f : D → Option Int → Option Int → Option D) (h : M (Option Int)) (x : Pl) (i : Option Int) (s : S) : kSl0 f h x i s = (h s).bind (kSl1 f x i) := id rfl
def kSl (f : D → Option Int → Option Int → Option D) (l h : M (Option Int)) : Pl → S → R D := fun x s => (l s).bind (kSl0 f h x)
@[simp] theorem kSl_e (f : D → Option Int → Option Int → Option D) (l h : M (Option Int)) (x : Pl) (s : S) : kSl f l h x s = (l s).bind (kSl0 f h x) := id rfl
@[simp] theorem e_mSl (f : D → Option Int → Option Int → Option D) (a : M Pl) (l h : M (Option Int)) (s : S) : mSl f a l h s = (a s).bind (kSl f l h) := by
  unfold mSl kSl kSl0 kSl1 kSl2 R.opt
  congr 1
  funext x s
  congr 1
  funext i s
  congr 1
  funext j s
  cases x.get s with
  | none => rfl
  | some d => dsimp only; cases f d i j <;> rfl
def kSl2F  (i j : Option Int) (s : S) : Option D → R MO
  | some d => R.opt s (oSlL d i j)
  | none => .bad
@[simp] theorem kSl2F_e  (i j : Option Int) (s : S) (d : D) : kSl2F i j s (some d) = R.opt s (oSlL d i j) := id rfl
def kSl1F  (x : Pl) (i : Option Int) : Option Int → S → R MO := fun j s => kSl2F i j s (x.get s)
@[simp] theorem kSl1F_e  (x : Pl) (i j : Option Int) (s : S) : kSl1F x i j s = kSl2F i j s (x.get s) := id rfl
def kSl0F  (h : M (Option Int)) (x : Pl) : Option Int → S → R MO := fun i s => (h s).bind (kSl1F x i)
@[simp] theorem kSl0F_e  (h : M (Option Int)) (x : Pl) (i : Option Int) (s : S) : kSl0F h x i s = (h s).bind (kSl1F x i) := id rfl
def kSlF  (l h : M (Option Int)) : Pl → S → R MO := fun x s => (l s).bind (kSl0F h x)
@[simp] theorem kSlF_e  (l h : M (Option Int)) (x : Pl) (s : S) : kSlF l h x s = (l s).bind (kSl0F h x) := id rfl
@[simp] theorem e_mSlF  (a : M Pl) (l h : M (Option Int)) (s : S) : mSlF a l h s = (a s).bind (kSlF l h) := by
  unfold mSlF kSlF kSl0F kSl1F kSl2F R.opt
  congr 1
  funext x s
  congr 1
  funext i s
  congr 1
  funext j s
  cases x.get s with
  | none => rfl
  | some d => dsimp only; cases oSlL d i j <;> rfl
def kRv (s : S) : Option D → R MO
  | some d => (R.opt s d.seqL).bind fun xs s => .ok (.lst xs.reverse) s
  | none => .bad
@[simp] theorem kRv_l (s : S) (xs : List D) : kRv s (some (.lst xs)) = .ok (.lst xs.reverse) s := id rfl
@[simp] theorem kRv_r (s : S) (xs : List D) : kRv s (some (.rls xs)) = .ok (.lst xs.reverse) s := id rfl
def kRev : Pl → S → R MO := fun x s => kRv s (x.get s)
@[simp] theorem kRev_e (x : Pl) (s : S) : kRev x s = kRv s (x.get s) := id rfl
@[simp] theorem e_mRev (a : M Pl) (s : S) : mRev a s = (a s).bind kRev := by
  unfold mRev kRev kRv
  congr 1
  funext x s
  cases x.get s with
  | none => rfl
  | some d => cases d <;> rfl
@[simp] theorem e_mNil {α : Type} (s : S) : mNil (α := α) s = .ok [] s := id rfl
def kCons2 {α : Type} (x : α) : List α → S → R (List α) := fun xs s => .ok (x :: xs) s
@[simp] theorem kCons2_e0 {α : Type} (x : α) (xs : List α) (s : S) : kCons2 x (xs) (s) = .ok (x :: xs) s := id rfl
def kCons {α : Type} (r : M (List α)) : α → S → R (List α) := fun x s => (r s).bind (kCons2 x)
@[simp] theorem kCons_e0 {α : Type} (r : M (List α)) (x : α) (s : S) : kCons r (x) (s) = (r s).bind (kCons2 x) := id rfl
@[simp] theorem e_mCons {α : Type} (a : M α) (r : M (List α)) (s : S) : mCons a r s = (a s).bind (kCons r) := id rfl
def kTup  : List D → S → R D := fun ds s => .ok (.tup ds) s
@[simp] theorem kTup_e0  (ds : List D) (s : S) : kTup  (ds) (s) = .ok (.tup ds) s := id rfl
@[simp] theorem e_mTup (m : M (List D)) (s : S) : mTup m s = (m s).bind kTup := id rfl
def kLst  : List D → S → R MO := fun ds s => .ok (.lst ds) s
@[simp] theorem kLst_e0  (ds : List D) (s : S) : kLst  (ds) (s) = .ok (.lst ds) s := id rfl
@[simp] theorem e_mLst (m : M (List D)) (s : S) : mLst m s = (m s).bind kLst := id rfl
def kCl {α : Type} (f : List D → Option α) (s : S) : Option (List D) → R α
  | some ds => R.opt s (f ds)
  | none => .bad
@[simp] theorem kCl_e {α : Type} (f : List D → Option α) (s : S) (ds : List D) : kCl f s (some ds) = R.opt s (f ds) := id rfl
def kCall {α : Type} (f : List D → Option α) : List Pl → S → R α := fun ps s => kCl f s (gets s ps)
@[simp] theorem kCall_e {α : Type} (f : List D → Option α) (ps : List Pl) (s : S) : kCall f ps s = kCl f s (gets s ps) := id rfl
@[simp] theorem e_mCall {α : Type} (f : List D → Option α) (m : M (List Pl)) (s : S) : mCall f m s = (m s).bind (kCall f) := by
  unfold mCall kCall kCl R.opt
  congr 1
def kBits  : D → S → R D := fun d s => match d with
  | .int i => .ok (.int (Builtin.Int.intBits i : Nat)) s
  | _ => .bad
@[simp] theorem kBits_e0  (i : Int) (s : S) : kBits  (.int i) (s) = .ok (.int (Builtin.Int.intBits i : Nat)) s := id rfl
@[simp] theorem e_mBits (m : M D) (s : S) : mBits m s = (m s).bind kBits := by
  unfold mBits kBits
  rfl
def kNeg  : D → S → R D := fun d s => match d with
  | .int i => .ok (.int (-i)) s
  | _ => .bad
@[simp] theorem kNeg_e0  (i : Int) (s : S) : kNeg  (.int i) (s) = .ok (.int (-i)) s := id rfl
@[simp] theorem e_mNeg (m : M D) (s : S) : mNeg m s = (m s).bind kNeg := by
  unfold mNeg kNeg
  rfl
def kFn0R (s : S) : R D → R D
  | .ok d _ => .ok d s
  | .ex c d _ => .ex c d s
  | .bad => .bad
@[simp] theorem kFn0R_ok (s s' : S) (d : D) : kFn0R s (.ok d s') = .ok d s := id rfl
@[simp] theorem kFn0R_ex (s s' : S) (c : Str) (d : D) : kFn0R s (.ex c d s') = .ex c d s := id rfl
def kFn0 (F : Fn) : List D → S → R D := fun ds s => kFn0R s (F (ds.map .fz))
@[simp] theorem kFn0_e (F : Fn) (ds : List D) (s : S) : kFn0 F ds s = kFn0R s (F (ds.map .fz)) := id rfl
@[simp] theorem e_mFn0 (F : Fn) (m : M (List D)) (s : S) : mFn0 F m s = (m s).bind (kFn0 F) := by
  unfold mFn0 kFn0 kFn0R
  rfl
def kFnOR (s : S) : R MO → R MO
  | .ok d _ => .ok d s
  | .ex c d _ => .ex c d s
  | .bad => .bad
@[simp] theorem kFnOR_ok (s s' : S) (d : MO) : kFnOR s (.ok d s') = .ok d s := id rfl
@[simp] theorem kFnOR_ex (s s' : S) (c : Str) (d : D) : kFnOR s (.ex c d s') = .ex c d s := id rfl
def kFnO (F : S → R MO) : List D → S → R MO := fun ds s => kFnOR s (F (ds.map .fz))
@[simp] theorem kFnO_e (F : S → R MO) (ds : List D) (s : S) : kFnO F ds s = kFnOR s (F (ds.map .fz)) := id rfl
@[simp] theorem e_mFnO (F : S → R MO) (m : M (List D)) (s : S) : mFnO F m s = (m s).bind (kFnO F) := by
  unfold mFnO kFnO kFnOR
  rfl
def kFn1R (i n : Nat) (s : S) : R D → R D
  | .ok d s' => match s'[n]? with
    | some sl' => .ok d (s.set i sl')
    | none => .bad
  | .ex c d s' => match s'[n]? with
    | some sl' => .ex c d (s.set i sl')
    | none => .bad
  | .bad => .bad
@[simp] theorem kFn1R_ok (i n : Nat) (s s' : S) (d : D) (sl : Sl) (h : s'[n]? = some sl) : kFn1R i n s (.ok d s') = .ok d (s.set i sl) := by
  unfold kFn1R
  simp only [h]
@[simp] theorem kFn1R_ok0 (i : Nat) (s s' : S) (d : D) (sl : Sl) : kFn1R i 0 s (.ok d (sl :: s')) = .ok d (s.set i sl) := id rfl
def kFn1S (F : Fn) (i : Nat) (p : List D × List D) (s : S) : Option Sl → R D
  | some sl => kFn1R i p.1.length s (F (p.1.map .fz ++ sl :: p.2.map .fz))
  | none => .bad
@[simp] theorem kFn1S_e (F : Fn) (i : Nat) (p : List D × List D) (s : S) (sl : Sl) : kFn1S F i p s (some sl) = kFn1R i p.1.length s (F (p.1.map .fz ++ sl :: p.2.map .fz)) := id rfl
def kFn1 (F : Fn) (i : Nat) : List D × List D → S → R D := fun p s => kFn1S F i p s s[i]?
@[simp] theorem kFn1_e (F : Fn) (i : Nat) (p : List D × List D) (s : S) : kFn1 F i p s = kFn1S F i p s s[i]? := id rfl
@[simp] theorem e_mFn1 (F : Fn) (i : Nat) (m : M (List D × List D)) (s : S) : mFn1 F i m s = (m s).bind (kFn1 F i) := by
  unfold mFn1 kFn1 kFn1S kFn1R
  rfl
def kHere : List D → S → R (List D × List D) := fun ds s => .ok ([], ds) s
@[simp] theorem kHere_e (ds : List D) (s : S) : kHere ds s = .ok ([], ds) s := id rfl
def slH (m : M (List D)) (s : S) : Option Sl → R (List D × List D)
  | some (.ow _) => (m s).bind kHere
  | some (.fz _) => (m s).bind kHere
  | _ => .bad
@[simp] theorem slH_ow (m : M (List D)) (s : S) (o : MO) : slH m s (some (.ow o)) = (m s).bind kHere := id rfl
@[simp] theorem slH_fz (m : M (List D)) (s : S) (o : D) : slH m s (some (.fz o)) = (m s).bind kHere := id rfl
@[simp] theorem e_m1Here (i : Nat) (m : M (List D)) (s : S) : m1Here i m s = slH m s s[i]? := by
  unfold m1Here slH kHere
  rfl
def k1C2 (x : D) : List D × List D → S → R (List D × List D) := fun p s => .ok (x :: p.1, p.2) s
@[simp] theorem k1C2_e0 (x : D) (p : List D × List D) (s : S) : k1C2 x (p) (s) = .ok (x :: p.1, p.2) s := id rfl
def k1C (m : M (List D × List D)) : D → S → R (List D × List D) := fun x s => (m s).bind (k1C2 x)
@[simp] theorem k1C_e0 (m : M (List D × List D)) (x : D) (s : S) : k1C m (x) (s) = (m s).bind (k1C2 x) := id rfl
@[simp] theorem e_m1Cons (a : M D) (m : M (List D × List D)) (s : S) : m1Cons a m s = (a s).bind (k1C m) := id rfl
@[simp] theorem e_tgN (i : Nat) (d : D) (s : S) : tgN i d s = some (s.set i (.fz d)) := id rfl
@[simp] theorem e_tgs0 (s : S) : tgs0 [] s = some s := id rfl
@[simp] theorem e_tgsC (t : D → S → Option S) (u : List D → S → Option S) (d : D) (ds : List D) (s s1 : S) (h : t d s = some s1) : tgsC t u (d :: ds) s = u ds s1 := by
  show (t d s).bind (u ds) = u ds s1
  rw [h]
  rfl
@[simp] theorem e_tgT (u : List D → S → Option S) (ds : List D) (s : S) : tgT u (.tup ds) s = u ds s := id rfl
@[simp] theorem e_tgT2 (u : List D → S → Option S) (ds : List D) (s : S) : tgT u (.rtp ds) s = u ds s := id rfl
def kSeq (b : M Fl) : Fl → S → R Fl := fun d s => match d with
  | .nx => b s
  | .rt d => .ok (.rt d) s
  | .ro o => .ok (.ro o) s
  | .bk => .ok .bk s
  | .ct => .ok .ct s
@[simp] theorem kSeq_e0 (b : M Fl) (s : S) : kSeq b (.nx) (s) = b s := id rfl
@[simp] theorem kSeq_e1 (b : M Fl) (d : D) (s : S) : kSeq b (.rt d) (s) = .ok (.rt d) s := id rfl
@[simp] theorem kSeq_e2 (b : M Fl) (o : MO) (s : S) : kSeq b (.ro o) (s) = .ok (.ro o) s := id rfl
@[simp] theorem kSeq_e3 (b : M Fl) (s : S) : kSeq b (.bk) (s) = .ok .bk s := id rfl
@[simp] theorem kSeq_e4 (b : M Fl) (s : S) : kSeq b (.ct) (s) = .ok .ct s := id rfl
@[simp] theorem e_mSeq (a b : M Fl) (s : S) : mSeq a b s = (a s).bind (kSeq b) := by
  unfold mSeq
  congr 1
  funext f s
  cases f <;> rfl
@[simp] theorem e_mNx  (s : S) : mNx  s = .ok (.nx) s := id rfl
@[simp] theorem e_mBk  (s : S) : mBk  s = .ok (.bk) s := id rfl
@[simp] theorem e_mCt  (s : S) : mCt  s = .ok (.ct) s := id rfl
@[simp] theorem e_mRetN  (s : S) : mRetN  s = .ok (.rt .non) s := id rfl
def kRet  : D → S → R Fl := fun d s => .ok (.rt d) s
@[simp] theorem kRet_e0  (d : D) (s : S) : kRet  (d) (s) = .ok (.rt d) s := id rfl
@[simp] theorem e_mRet (m : M D) (s : S) : mRet m s = (m s).bind kRet := id rfl
def kRetF  : MO → S → R Fl := fun d s => .ok (.ro d) s
@[simp] theorem kRetF_e0  (d : MO) (s : S) : kRetF  (d) (s) = .ok (.ro d) s := id rfl
@[simp] theorem e_mRetF (m : M MO) (s : S) : mRetF m s = (m s).bind kRetF := id rfl
def slR (s : S) : Option Sl → R Fl
  | some (.ow o) => .ok (.ro o) s
  | _ => .bad
@[simp] theorem slR_e (s : S) (o : MO) : slR s (some (.ow o)) = .ok (.ro o) s := id rfl
@[simp] theorem e_mRetO (i : Nat) (s : S) : mRetO i s = slR s s[i]? := by unfold mRetO slR; rfl
def kDrop  : D → S → R Fl := fun _ s => .ok .nx s
@[simp] theorem kDrop_e (d : D) (s : S) : kDrop d s = .ok .nx s := id rfl
@[simp] theorem e_mDrop (m : M D) (s : S) : mDrop m s = (m s).bind kDrop := id rfl
def kAsg (st : D → S → Option S) : D → S → R Fl := fun d s => match st d s with
    | some s => .ok .nx s
    | none => .bad
@[simp] theorem kAsg_e (st : D → S → Option S) (d : D) (s s1 : S) (h : st d s = some s1) : kAsg st d s = .ok .nx s1 := by unfold kAsg; rw [h]
@[simp] theorem e_mAsg (m : M D) (st : D → S → Option S) (s : S) : mAsg m st s = (m s).bind (kAsg st) := id rfl
def kSet (i : Nat) : D → S → R Fl := fun d s => .ok .nx (s.set i (.fz d))
@[simp] theorem kSet_e0 (i : Nat) (d : D) (s : S) : kSet i (d) (s) = .ok .nx (s.set i (.fz d)) := id rfl
@[simp] theorem e_mSet (i : Nat) (m : M D) (s : S) : mSet i m s = (m s).bind (kSet i) := id rfl
def kSetO (i : Nat) : MO → S → R Fl := fun d s => .ok .nx (s.set i (.ow d))
@[simp] theorem kSetO_e0 (i : Nat) (d : MO) (s : S) : kSetO i (d) (s) = .ok .nx (s.set i (.ow d)) := id rfl
@[simp] theorem e_mSetO (i : Nat) (m : M MO) (s : S) : mSetO i m s = (m s).bind (kSetO i) := id rfl
def kPar (i j : Nat) : List D → S → R Fl := fun d s => match d with
  | [d, e] => .ok .nx ((s.set i (.fz d)).set j (.fz e))
  | _ => .bad
@[simp] theorem kPar_e0 (i j : Nat) (d e : D) (s : S) : kPar i j ([d, e]) (s) = .ok .nx ((s.set i (.fz d)).set j (.fz e)) := id rfl
@[simp] theorem e_mPar (i j : Nat) (m : M (List D)) (s : S) : mPar i j m s = (m s).bind (kPar i j) := by
  unfold mPar kPar
  rfl
def slA (i : Nat) (d : D) (s : S) : Option Sl → R Fl
  | some (.ow (.lst xs)) => if xs.length < sizeLine then .ok .nx (s.set i (.ow (.lst (xs ++ [d])))) else .bad
  | _ => .bad
@[simp] theorem slA_e (i : Nat) (d : D) (s : S) (xs : List D) : slA i d s (some (.ow (.lst xs))) = if xs.length < sizeLine then .ok .nx (s.set i (.ow (.lst (xs ++ [d])))) else .bad := id rfl
def kApp (i : Nat) : D → S → R Fl := fun d s => slA i d s s[i]?
@[simp] theorem kApp_e (i : Nat) (d : D) (s : S) : kApp i d s = slA i d s s[i]? := id rfl
def slA0 (i : Nat) (m : M D) (s : S) : Option Sl → R Fl
  | some (.ow (.lst _)) => (m s).bind (kApp i)
  | _ => .bad
@[simp] theorem slA0_e (i : Nat) (m : M D) (s : S) (xs : List D) : slA0 i m s (some (.ow (.lst xs))) = (m s).bind (kApp i) := id rfl
@[simp] theorem e_mApp (i : Nat) (m : M D) (s : S) : mApp i m s = slA0 i m s s[i]? := by
  unfold mApp slA0 kApp slA
  rfl
def slO (s : S) (i : Nat) : Option D → List D → R D
  | some d, xs => .ok d (s.set i (.ow (.lst xs)))
  | none, _ => .bad
@[simp] theorem slO_e (s : S) (i : Nat) (d : D) (xs : List D) : slO s i (some d) xs = .ok d (s.set i (.ow (.lst xs))) := id rfl
def slPop (i : Nat) (s : S) : Option Sl → R D
  | some (.ow (.lst xs)) => slO s i xs[xs.length - 1]? xs.dropLast
  | _ => .bad
@[simp] theorem slPop_e (i : Nat) (s : S) (xs : List D) : slPop i s (some (.ow (.lst xs))) = slO s i xs[xs.length - 1]? xs.dropLast := id rfl
@[simp] theorem e_mPop (i : Nat) (s : S) : mPop i s = slPop i s s[i]? := by
  unfold mPop slPop slO
  cases s[i]? with
  | none => rfl
  | some sl =>
    cases sl with
    | no => rfl
    | fz d => rfl
    | ow o =>
      cases o with
      | lst xs => dsimp only; cases xs[xs.length - 1]? <;> rfl
      | _ => rfl
def slRv (i : Nat) (s : S) : Option Sl → R Fl
  | some (.ow (.lst xs)) => .ok .nx (s.set i (.ow (.lst xs.reverse)))
  | _ => .bad
@[simp] theorem slRv_e (i : Nat) (s : S) (xs : List D) : slRv i s (some (.ow (.lst xs))) = .ok .nx (s.set i (.ow (.lst xs.reverse))) := id rfl
@[simp] theorem e_mRevS (i : Nat) (s : S) : mRevS i s = slRv i s s[i]? := by unfold mRevS slRv; rfl
def slSN (i : Nat) (d : D) (s : S) (xs : List D) : Option Nat → R Fl
  | some n => .ok .nx (s.set i (.ow (.lst (xs.set n d))))
  | none => .bad
@[simp] theorem slSN_e (i : Nat) (d : D) (s : S) (xs : List D) (n : Nat) : slSN i d s xs (some n) = .ok .nx (s.set i (.ow (.lst (xs.set n d)))) := id rfl
def slSI (i : Nat) (d : D) (j : Int) (s : S) : Option Sl → R Fl
  | some (.ow (.lst xs)) => slSN i d s xs (ixN xs.length j)
  | _ => .bad
@[simp] theorem slSI_e (i : Nat) (d : D) (j : Int) (s : S) (xs : List D) : slSI i d j s (some (.ow (.lst xs))) = slSN i d s xs (ixN xs.length j) := id rfl
def kSI2 (i : Nat) (d : D) : D → S → R Fl := fun j s => match j with
  | .int j => slSI i d j s s[i]?
  | _ => .bad
@[simp] theorem kSI2_e (i : Nat) (d : D) (j : Int) (s : S) : kSI2 i d (.int j) s = slSI i d j s s[i]? := id rfl
def slSI0 (i : Nat) (d : D) (k : M D) (s : S) : Option Sl → R Fl
  | some (.ow (.lst _)) => (k s).bind (kSI2 i d)
  | _ => .bad
@[simp] theorem slSI0_e (i : Nat) (d : D) (k : M D) (s : S) (xs : List D) : slSI0 i d k s (some (.ow (.lst xs))) = (k s).bind (kSI2 i d) := id rfl
def kSI (i : Nat) (k : M D) : D → S → R Fl := fun d s => slSI0 i d k s s[i]?
@[simp] theorem kSI_e (i : Nat) (k : M D) (d : D) (s : S) : kSI i k d s = slSI0 i d k s s[i]? := id rfl
@[simp] theorem e_mSetI (i : Nat) (m k : M D) (s : S) : mSetI i m k s = (m s).bind (kSI i k) := by
  unfold mSetI kSI slSI0 kSI2 slSI slSN
  rfl
def kAug (i : Nat) (f : D → D → Option D) (d : D) : D → S → R Fl := fun e s => (R.opt s (f d e)).bind (kSet i)
@[simp] theorem kAug_e (i : Nat) (f : D → D → Option D) (d e : D) (s : S) : kAug i f d e s = (R.opt s (f d e)).bind (kSet i) := id rfl
def slAug (i : Nat) (f : D → D → Option D) (m : M D) (s : S) : Option Sl → R Fl
  | some (.fz d) => (m s).bind (kAug i f d)
  | _ => .bad
@[simp] theorem slAug_e (i : Nat) (f : D → D → Option D) (m : M D) (s : S) (d : D) : slAug i f m s (some (.fz d)) = (m s).bind (kAug i f d) := id rfl
@[simp] theorem e_mAug (i : Nat) (f : D → D → Option D) (m : M D) (s : S) : mAug i f m s = slAug i f m s s[i]? := by
  unfold mAug slAug
  cases s[i]? with
  | none => rfl
  | some sl =>
    cases sl with
    | no => rfl
    | ow o => rfl
    | fz d =>
      dsimp only
      congr 1
      funext e s
      unfold kAug R.opt
      cases f d e <;> rfl
def kIt : D → S → R (List D) := fun d s => R.opt s d.items
@[simp] theorem kIt_e (d : D) (s : S) : kIt d s = R.opt s d.items := id rfl
@[simp] theorem e_mItems (m : M D) (s : S) : mItems m s = (m s).bind kIt := by
  unfold mItems kIt R.opt
  congr 1
  funext d s
  cases d.items <;> rfl
def kRg1 : List D → S → R (List D) := fun ds s => match ds with
  | [.int j] => if -(2 ^ 62) ≤ j ∧ j < 2 ^ 62 then .ok (rangeD 0 j.toNat) s else .bad
  | _ => .bad
theorem kRg1_e (j : Int) (s : S) : kRg1 [.int j] s = if -(2 ^ 62) ≤ j ∧ j < 2 ^ 62 then .ok (rangeD 0 j.toNat) s else .bad := rfl
@[simp] theorem e_mRange1 (m : M (List D)) (s : S) : mRange1 m s = (m s).bind kRg1 := by
  unfold mRange1 kRg1
  rfl
theorem rg1 {j : Int} (s : S) (h0 : 0 ≤ j) (h1 : j ≤ 1000000000) : kRg1 [.int j] s = .ok (rangeD 0 j.toNat) s := by
  rw [kRg1_e, if_pos (by omega)]
theorem rg1n {n : Nat} (s : S) (h1 : n ≤ 1000000000) : kRg1 [.int (n : Int)] s = .ok (rangeD 0 n) s := rg1 s (by omega) (by omega)
theorem rg1N (n : Nat) (s : S) (h1 : n ≤ 1000000000) : kRg1 [.int (OfNat.ofNat n)] s = .ok (rangeD 0 n) s := rg1 (j := (n : Int)) s (by omega) (by omega)
def kRg2 : List D → S → R (List D) := fun ds s => match ds with
  | [.int i, .int j] => if -(2 ^ 62) ≤ i ∧ i < 2 ^ 62 ∧ -(2 ^ 62) ≤ j ∧ j < 2 ^ 62 then .ok (rangeD i (j - i).toNat) s else .bad
  | _ => .bad
theorem kRg2_e (i j : Int) (s : S) : kRg2 [.int i, .int j] s = if -(2 ^ 62) ≤ i ∧ i < 2 ^ 62 ∧ -(2 ^ 62) ≤ j ∧ j < 2 ^ 62 then .ok (rangeD i (j - i).toNat) s else .bad := rfl
theorem rg2 {i j : Int} (s : S) (h0 : 0 ≤ i) (h1 : j ≤ 1000000000) (h2 : i ≤ 1000000000) (h3 : 0 ≤ j) : kRg2 [.int i, .int j] s = .ok (rangeD i (j - i).toNat) s := by
  rw [kRg2_e, if_pos (by omega)]
@[simp] theorem e_mRange2 (m : M (List D)) (s : S) : mRange2 m s = (m s).bind kRg2 := by
  unfold mRange2 kRg2
  rfl
def kFor (st : D → S → Option S) (body : M Fl) : List D → S → R Fl := fun ds s => forGo st body ds s
@[simp] theorem kFor_e (st : D → S → Option S) (body : M Fl) (ds : List D) (s : S) : kFor st body ds s = forGo st body ds s := id rfl
@[simp] theorem e_mFor (mi : M (List D)) (st : D → S → Option S) (body : M Fl) (s : S) : mFor mi st body s = (mi s).bind (kFor st body) := id rfl
def kLc (vs : List Nat) (st : D → S → Option S) (c : M Bool) (e : M D) : List D → S → R MO := fun ds s => (lcGo vs st c e ds s).nox.bind lcEnd
@[simp] theorem kLc_e (vs : List Nat) (st : D → S → Option S) (c : M Bool) (e : M D) (ds : List D) (s : S) : kLc vs st c e ds s = (lcGo vs st c e ds s).nox.bind lcEnd := id rfl
@[simp] theorem e_mLc (vs : List Nat) (mi : M (List D)) (st : D → S → Option S) (c : M Bool) (e : M D) (s : S) : mLc vs mi st c e s = (mi s).bind (kLc vs st c e) := id rfl
def kLc2 (vs vs1 : List Nat) (st : D → S → Option S) (c : M Bool) (mi1 : M (List D)) (st1 : D → S → Option S) (c1 : M Bool) (e : M D) : List D → S → R MO := fun ds s => (lcGo2 vs st c (lcIn vs1 mi1 st1 c1 e) ds s).nox.bind lcEnd
@[simp] theorem kLc2_e (vs vs1 : List Nat) (st : D → S → Option S) (c : M Bool) (mi1 : M (List D)) (st1 : D → S → Option S) (c1 : M Bool) (e : M D) (ds : List D) (s : S) : kLc2 vs vs1 st c mi1 st1 c1 e ds s = (lcGo2 vs st c (lcIn vs1 mi1 st1 c1 e) ds s).nox.bind lcEnd := id rfl
@[simp] theorem e_mLc2 (vs vs1 : List Nat) (mi : M (List D)) (st : D → S → Option S) (c : M Bool) (mi1 : M (List D)) (st1 : D → S → Option S) (c1 : M Bool) (e : M D) (s : S) : mLc2 vs vs1 mi st c mi1 st1 c1 e s = (mi s).bind (kLc2 vs vs1 st c mi1 st1 c1 e) := id rfl
@[simp] theorem e_mYes (s : S) : mYes s = .ok true s := id rfl
@[simp] theorem e_mRaise (c : Str) (s : S) : mRaise c s = .ex c .non s := id rfl

/-! ### operators -/
@[simp] theorem v_addI (i j : Int) : oAdd (.int i) (.int j) = some (.int (i + j)) := id rfl
@[simp] theorem v_addI0 (i j : Int) : oAddI0 (.int i) (.int j) = some (.int (i + j)) := id rfl
@[simp] theorem v_addL (xs ys : List D) : oAdd (.lst xs) (.lst ys) = if xs.length + ys.length ≤ sizeLine then some (.lst (xs ++ ys)) else none := id rfl
@[simp] theorem v_addT (xs ys : List D) : oAdd (.tup xs) (.tup ys) = if xs.length + ys.length ≤ sizeLine then some (.tup (xs ++ ys)) else none := id rfl
@[simp] theorem v_addL' (xs ys : List D) : oAddL (.lst xs) (.lst ys) = if xs.length + ys.length ≤ sizeLine then some (.lst (xs ++ ys)) else none := id rfl
@[simp] theorem v_mulI (i j : Int) : oMul (.int i) (.int j) = (fMul i j).map .int := id rfl
@[simp] theorem v_oI (f : Int → Int → Option Int) (i j : Int) : oI f (.int i) (.int j) = (f i j).map .int := id rfl
@[simp] theorem v_lt (i j : Int) : oLt (.int i) (.int j) = some (.bl (decide (i < j))) := id rfl
@[simp] theorem v_le (i j : Int) : oLe (.int i) (.int j) = some (.bl (decide (i ≤ j))) := id rfl
@[simp] theorem v_gt (i j : Int) : oGt (.int i) (.int j) = some (.bl (decide (j < i))) := id rfl
@[simp] theorem v_ge (i j : Int) : oGe (.int i) (.int j) = some (.bl (decide (j ≤ i))) := id rfl
@[simp] theorem v_eqI (i j : Int) : oEq (.int i) (.int j) = some (.bl (decide (i = j))) := id rfl
@[simp] theorem v_neI (i j : Int) : oNe (.int i) (.int j) = some (.bl (!decide (i = j))) := id rfl
@[simp] theorem v_eqB (i j : Bool) : oEq (.bl i) (.bl j) = some (.bl (decide (i = j))) := id rfl
@[simp] theorem v_neB (i j : Bool) : oNe (.bl i) (.bl j) = some (.bl (!decide (i = j))) := id rfl
@[simp] theorem v_eqS (i j : Str) : oEq (.str i) (.str j) = some (.bl (decide (i = j))) := id rfl
@[simp] theorem v_is_l (xs : List D) : oIs (.lst xs) .non = some (.bl false) := id rfl
@[simp] theorem v_is_t (xs : List D) : oIs (.tup xs) .non = some (.bl false) := id rfl
@[simp] theorem v_is_i (i : Int) : oIs (.int i) .non = some (.bl false) := id rfl
@[simp] theorem v_is_s (i : Str) : oIs (.str i) .non = some (.bl false) := id rfl
@[simp] theorem v_is_b (i : Bool) : oIs (.bl i) .non = some (.bl false) := id rfl
@[simp] theorem v_is_n : oIs .non .non = some (.bl true) := id rfl
@[simp] theorem v_is_bb (i j : Bool) : oIs (.bl i) (.bl j) = some (.bl (decide (i = j))) := id rfl
@[simp] theorem v_isN_l (xs : List D) : oIsN (.lst xs) .non = some (.bl true) := id rfl
@[simp] theorem v_isN_t (xs : List D) : oIsN (.tup xs) .non = some (.bl true) := id rfl
@[simp] theorem v_isN_i (i : Int) : oIsN (.int i) .non = some (.bl true) := id rfl
@[simp] theorem v_isN_n : oIsN .non .non = some (.bl false) := id rfl
@[simp] theorem v_isN_bb (i j : Bool) : oIsN (.bl i) (.bl j) = some (.bl (!decide (i = j))) := id rfl
@[simp] theorem v_ixL (xs : List D) (i : Int) : oIx (.lst xs) (.int i) = atI xs i := id rfl
@[simp] theorem v_ixT (xs : List D) (i : Int) : oIx (.tup xs) (.int i) = atI xs i := id rfl
@[simp] theorem v_ixR (xs : List D) (i : Int) : oIx (.rls xs) (.int i) = atI xs i := id rfl
@[simp] theorem v_ixRt (xs : List D) (i : Int) : oIx (.rtp xs) (.int i) = atI xs i := id rfl
@[simp] theorem v_slL (xs : List D) (i j : Option Int) : oSl (.lst xs) i j = some (.lst (cut xs i j)) := id rfl
@[simp] theorem v_slT (xs : List D) (i j : Option Int) : oSl (.tup xs) i j = some (.tup (cut xs i j)) := id rfl
@[simp] theorem v_slLL (xs : List D) (i j : Option Int) : oSlL (.lst xs) i j = some (.lst (cut xs i j)) := id rfl
@[simp] theorem v_lenL (xs : List D) : fLen [.lst xs] = some (.int xs.length) := id rfl
@[simp] theorem v_lenR (xs : List D) : fLen [.rls xs] = some (.int xs.length) := id rfl
@[simp] theorem v_lenT (xs : List D) : fLen [.tup xs] = some (.int xs.length) := id rfl
@[simp] theorem v_lenRt (xs : List D) : fLen [.rtp xs] = some (.int xs.length) := id rfl
@[simp] theorem v_int (i : Int) : fInt [.int i] = some (.int i) := id rfl
@[simp] theorem v_abs (i : Int) : fAbs [.int i] = some (.int (if i < 0 then -i else i)) := id rfl
@[simp] theorem v_max2 (i j : Int) : fMax2 [.int i, .int j] = some (.int (if j > i then j else i)) := id rfl
@[simp] theorem v_min2 (i j : Int) : fMin2 [.int i, .int j] = some (.int (if j < i then j else i)) := id rfl
@[simp] theorem v_listL (xs : List D) : fList [.lst xs] = some (.lst xs) := id rfl
@[simp] theorem v_listR (xs : List D) : fList [.rls xs] = some (.lst xs) := id rfl
@[simp] theorem v_listT (xs : List D) : fList [.tup xs] = some (.lst xs) := id rfl
@[simp] theorem v_tupL (xs : List D) : fTuple [.lst xs] = some (.tup xs) := id rfl
@[simp] theorem v_tupT (xs : List D) : fTuple [.tup xs] = some (.tup xs) := id rfl
@[simp] theorem v_itemsL (xs : List D) : (D.lst xs).items = some xs := id rfl
@[simp] theorem v_itemsR (xs : List D) : (D.rls xs).items = some xs := id rfl
@[simp] theorem v_itemsT (xs : List D) : (D.tup xs).items = some xs := id rfl
@[simp] theorem v_itemsRt (xs : List D) : (D.rtp xs).items = some xs := id rfl
@[simp] theorem v_truB (b : Bool) : (D.bl b).tru = some b := id rfl
@[simp] theorem v_truN : D.non.tru = some false := id rfl
@[simp] theorem v_truI (i : Int) : (D.int i).tru = some (i != 0) := id rfl
@[simp] theorem v_truL (xs : List D) : (D.lst xs).tru = some !xs.isEmpty := id rfl
@[simp] theorem v_truT (xs : List D) : (D.tup xs).tru = some !xs.isEmpty := id rfl
@[simp] theorem v_isi (d : D) (a b : String) (h : d.ty = some a) : fIsi [d, .raw (.ty b)] = (kitD a b).map .bl := by unfold fIsi; simp [h]
@[simp] theorem v_ty_i (i : Int) : (D.int i).ty = some "int" := id rfl
@[simp] theorem v_ty_b (i : Bool) : (D.bl i).ty = some "bool" := id rfl
@[simp] theorem v_ty_s (i : Str) : (D.str i).ty = some "str" := id rfl
@[simp] theorem v_ty_l (i : List D) : (D.lst i).ty = some "list" := id rfl
@[simp] theorem v_ty_t (i : List D) : (D.tup i).ty = some "tuple" := id rfl
@[simp] theorem v_ty_n : D.non.ty = some "NoneType" := id rfl
@[simp] theorem v_argsN : argsOk none [] = true := id rfl
@[simp] theorem v_argsF (d : D) (r : S) : argsOk none (.fz d :: r) = argsOk none r := id rfl
@[simp] theorem v_args0 (o : MO) (r : S) : argsOk (some 0) (.ow o :: r) = argsOk none r := id rfl
@[simp] theorem v_argsS (j : Nat) (d : D) (r : S) : argsOk (some (j + 1)) (.fz d :: r) = argsOk (some j) r := id rfl
@[simp] theorem v_wipe0 (s : S) : wipeS s [] = s := id rfl
@[simp] theorem v_wipe1 (s : S) (v : Nat) (vs : List Nat) : wipeS s (v :: vs) = (wipeS s vs).set v .no := id rfl
theorem v_mul {i j : Int} (h : i.natAbs < 2 ^ 64 ∨ j.natAbs < 2 ^ 64) : fMul i j = some (i * j) := if_pos h
theorem v_mod {i j : Int} (h : 0 < j) : fMod i j = some (i % j) := if_pos h
theorem v_div {i j : Int} (h : 0 < j) (h2 : j < 1073741824) : fDiv i j = some (i / j) := if_pos ⟨h, h2⟩
theorem v_shr {i j : Int} (h : 0 ≤ j) : fShr i j = some (i / 2 ^ j.toNat) := if_pos h
theorem v_shl {i j : Int} (h : 0 ≤ j) (h2 : j ≤ 1000000) (h3 : i.natAbs < 2 ^ 64) : fShl i j = some (i * 2 ^ j.toNat) := if_pos ⟨h, h2, h3⟩
theorem v_pow {i j : Int} (h : 0 ≤ j) (h2 : j ≤ 1000000) (h3 : i.natAbs < 2 ^ 64) : fPow i j = some (i ^ j.toNat) := if_pos ⟨h, h2, h3⟩
theorem v_at {xs : List D} {i : Int} {d : D} (h0 : 0 ≤ i) (h : xs[i.toNat]? = some d) : atI xs i = some d := by
  have hl : i.toNat < xs.length := (List.getElem?_eq_some_iff.mp h).1
  unfold atI ixN
  rw [if_pos h0, if_pos (by omega)]
  exact h
theorem v_ixN {n : Nat} {i : Int} (h0 : 0 ≤ i) (h : i < n) : ixN n i = some i.toNat := by
  unfold ixN
  rw [if_pos h0, if_pos h]
theorem cut_hi {α : Type} {xs : List α} {p : Int} (h0 : 0 ≤ p) : cut xs none (some p) = xs.take p.toNat := by
  unfold cut HT.sIx
  simp only [if_neg (show ¬ p < 0 by omega), List.drop_zero, Nat.sub_zero]
  rcases Nat.le_total p.toNat xs.length with h | h
  · rw [Nat.min_eq_left h]
  · rw [Nat.min_eq_right h, List.take_length, List.take_of_length_le h]
theorem cut_lo {α : Type} {xs : List α} {p : Int} (h0 : 0 ≤ p) : cut xs (some p) none = xs.drop p.toNat := by
  unfold cut HT.sIx
  simp only [if_neg (show ¬ p < 0 by omega)]
  rcases Nat.le_total p.toNat xs.length with h | h
  · rw [Nat.min_eq_left h]
    exact List.take_of_length_le (by simp)
  · rw [Nat.min_eq_right h]
    simp [List.drop_eq_nil_of_le h]

/-! ### a def's end -/
theorem mFun_rt {k : Nat} {body : M Fl} {as s : S} {d : D} (h : argsOk none as = true) (e : body (as ++ List.replicate k .no) = .ok (.rt d) s) : mFun none k body as = .ok d as := by
  unfold mFun
  rw [if_pos h, e]
  rfl
theorem mFun_rt1 {k j : Nat} {body : M Fl} {as s : S} {d : D} {sl : Sl} (h : argsOk (some j) as = true) (e : body (as ++ List.replicate k .no) = .ok (.rt d) s) (e2 : s[j]? = some sl) : mFun (some j) k body as = .ok d (as.set j sl) := by
  unfold mFun
  rw [if_pos h, e]
  simp only [fin, e2]
theorem mFun_ex {k : Nat} {body : M Fl} {as s : S} {c : Str} {d : D} (h : argsOk none as = true) (e : body (as ++ List.replicate k .no) = .ex c d s) : mFun none k body as = .ex c d as := by
  unfold mFun
  rw [if_pos h, e]
  rfl
theorem mFunO_ro {k : Nat} {body : M Fl} {as s : S} {o : MO} (h : argsOk none as = true) (e : body (as ++ List.replicate k .no) = .ok (.ro o) s) : mFunO k body as = .ok o as := by
  unfold mFunO
  rw [if_pos h, e]

/-! ### loops -/
/-- a for that runs to its end -/
theorem forGo_inv {st : D → S → Option S} {body : M Fl} {ds : List D} {s : S} (I : Nat → S → Prop) (h0 : I 0 s) (hs : ∀ (i : Nat) (d : D) (s : S), ds[i]? = some d → I i s → ∃ s1 s2, st d s = some s1 ∧ (body s1 = .ok .nx s2 ∨ body s1 = .ok .ct s2) ∧ I (i + 1) s2) :
    ∃ s', forGo st body ds s = .ok .nx s' ∧ I ds.length s' := by
  induction ds generalizing s I with
  | nil => exact ⟨s, rfl, h0⟩
  | cons d ds ih =>
    obtain ⟨s1, s2, e1, e2, h1⟩ := hs 0 d s rfl h0
    obtain ⟨s', e3, h3⟩ := ih (fun i => I (i + 1)) h1 fun i d s e h => hs (i + 1) d s (by simpa using e) h
    refine ⟨s', ?_, by simpa using h3⟩
    unfold forGo
    rw [e1]
    rcases e2 with e2 | e2
    · simp only [e2, e3, R.bind_ok]
    · simp only [e2, e3, R.bind_ok]
/-- a while that runs to its end: k measures it -/
theorem whileGo_inv {c : M Bool} {body : M Fl} {n : Nat} {s : S} (I : Nat → S → Prop) (h0 : ∃ k, k < n ∧ I k s) (hs : ∀ (k : Nat) (s : S), I k s → ∃ s1, (c s = .ok false s1) ∨ (c s = .ok true s1 ∧ ∃ s2 j, (body s1 = .ok .nx s2 ∨ body s1 = .ok .ct s2) ∧ j < k ∧ I j s2)) :
    ∃ k s' s'', whileGo c body n s = .ok .nx s' ∧ I k s'' ∧ c s'' = .ok false s' := by
  induction n generalizing s with
  | zero =>
    obtain ⟨k, hk, _⟩ := h0
    omega
  | succ n ih =>
    obtain ⟨k, hk, h⟩ := h0
    obtain ⟨s1, e1 | ⟨e1, s2, j, e2, hj, h2⟩⟩ := hs k s h
    · exact ⟨k, s1, s, by unfold whileGo; simp only [e1, R.bind_ok, if_neg Bool.false_ne_true], h, e1⟩
    · obtain ⟨k', s', s'', e3, h3⟩ := ih ⟨j, by omega, h2⟩
      refine ⟨k', s', s'', ?_, h3⟩
      unfold whileGo
      rcases e2 with e2 | e2
      · simp only [e1, e2, e3, R.bind_ok, if_true]
      · simp only [e1, e2, e3, R.bind_ok, if_true]
/-- a comprehension of one clause and no test -/
theorem lcGo_inv {vs : List Nat} {st : D → S → Option S} {e : M D} {ds : List D} {s : S} (I : Nat → List D → S → Prop) (h0 : I 0 [] s) (hs : ∀ (i : Nat) (d : D) (ys : List D) (s : S), ds[i]? = some d → I i ys s → ∃ s1 s2 y, st d (wipeS s vs) = some s1 ∧ e s1 = .ok y s2 ∧ I (i + 1) (ys ++ [y]) (wipeS s2 vs)) :
    ∃ ys s', lcGo vs st mYes e ds s = .ok ys s' ∧ I ds.length ys s' := by
  have key : ∀ (ds : List D) (zs : List D) (I : Nat → List D → S → Prop) (s : S), I 0 zs s → (∀ (i : Nat) (d : D) (ys : List D) (s : S), ds[i]? = some d → I i ys s → ∃ s1 s2 y, st d (wipeS s vs) = some s1 ∧ e s1 = .ok y s2 ∧ I (i + 1) (ys ++ [y]) (wipeS s2 vs)) →
      ∃ ys s', lcGo vs st mYes e ds s = .ok ys s' ∧ I ds.length (zs ++ ys) s' := by
    intro ds
    induction ds with
    | nil => exact fun zs I s h0 _ => ⟨[], s, rfl, by simpa using h0⟩
    | cons d ds ih =>
      intro zs I s h0 hs
      obtain ⟨s1, s2, y, e1, e2, h1⟩ := hs 0 d zs s rfl h0
      obtain ⟨ys, s', e3, h3⟩ := ih (zs ++ [y]) (fun i => I (i + 1)) _ h1 fun i d ys s e h => hs (i + 1) d ys s (by simpa using e) h
      refine ⟨y :: ys, s', ?_, by simpa using h3⟩
      unfold lcGo
      rw [e1]
      simp only [mYes, e2, e3, R.nox_ok, R.bind_ok, if_true]
  simpa using key ds [] I s h0 hs
theorem lcEnd_of {ys : List D} {s : S} (h : ys.length ≤ sizeLine) : lcEnd ys s = .ok (.lst ys) s := if_pos h
theorem rangeD_at {lo : Int} {n i : Nat} {d : D} (h : (rangeD lo n)[i]? = some d) : i < n ∧ d = .int (lo + (i : Nat)) := by
  unfold rangeD at h
  rw [List.getElem?_map] at h
  by_cases hi : i < n
  · rw [List.getElem?_range hi] at h
    exact ⟨hi, by simpa using h.symm⟩
  · rw [List.getElem?_eq_none (by simpa using hi)] at h
    cases h
theorem rangeD_len (lo : Int) (n : Nat) : (rangeD lo n).length = n := by simp [rangeD]

end Mv

set_option Elab.async false
set_option linter.all false
set_option maxRecDepth 100000
/-! Mv15: the defs that many laws share: drawing, comparing. -/
namespace Mv
open PySem PySem.Spec PyProof.Rows L2

def L__law_draws_0 : M Fl := (mSeq (mSet 6 (m2 oMod (pS 5) (asP (mCall fLen (mCons (pS 2) mNil)))))
  (mSeq (mSet 7 (m2 oIx (pS 2) (pS 6)))
  (mSeq (mSet 4 (m2 oMod (asP (mCall fInt (mCons (asP (m2 oAdd (asP (m2 oAdd (asP (m2 oAdd (asP (m2 oMul (pS 4) (asP (mC (.int 48271))))) (asP (m2 oMul (asP (m2 oMod (asP (mCall fInt (mCons (pS 7) mNil))) (asP (mC (.int 1000003))))) (asP (mC (.int 69621))))))) (asP (m2 oMul (pS 5) (asP (mC (.int 7919))))))) (asP (mC (.int 11))))) mNil))) (asP (mC (.int 2147483647)))))
  (mSeq (mSet 8 (m2 oMod (asP (mCall fInt (mCons (asP (m2 oAdd (asP (m2 oAdd (asP (m2 oMul (pS 4) (pS 4))) (asP (m2 oMul (asP (mC (.int 31))) (pS 4))))) (pS 5))) mNil))) (asP (mC (.int 1000003)))))
  (mSeq (mIf (mB (m2 oGe (pS 7) (asP (m2 oPow (asP (mC (.int 10))) (asP (mC (.int 18))))))) (mSeq (mApp 3 (m2 oMod (asP (mCall fInt (mCons (pS 7) mNil))) (asP (mC (.int 1000)))))
  (mSeq (mSetI 2 (m2 oDiv (pS 7) (asP (mC (.int 1000)))) (mV 6))
  mNx)) (mSeq (mApp 3 (m2 oMod (asP (mCall fInt (mCons (pS 8) mNil))) (asP (mC (.int 1000)))))
  mNx))
  mNx)))))
def B__law_draws : M Fl := (mSeq (mSetO 2 (mCall fList (mCons (pS 0) mNil)))
  (mSeq (mIf (mB (m2 oEq (asP (mCall fLen (mCons (pS 2) mNil))) (asP (mC (.int 0))))) (mSeq (mSetO 2 (mLst (mCons (mC (.int 7)) mNil)))
  mNx) mNx)
  (mSeq (mSetO 3 (mLst mNil))
  (mSeq (mSet 4 (mC (.int 12345)))
  (mSeq (mFor (mRange1 (mCons (mV 1) mNil)) (tgN 5) L__law_draws_0)
  (mSeq (mRevS 3)
  (mSeq (mRetO 3)
  mNx)))))))
def F__law_draws : (S → R MO) := mFunO 7 B__law_draws
def B__law_take : M Fl := (mSeq (mIf (mB (m2 oEq (asP (mCall fLen (mCons (pS 0) mNil))) (asP (mC (.int 0))))) (mSeq (mRet (mC (.int 0)))
  mNx) mNx)
  (mSeq (mRet (m2 oMod (asP (mCall fInt (mCons (asP (mPop 0)) mNil))) (pS 1)))
  mNx))
def F__law_take : Fn := mFun (some 0) 0 B__law_take
def L__law_same_0 (Fr : Fn) : M D := (mFn0 Fr (mCons (m2 oIx (pS 0) (pS 2)) (mCons (m2 oIx (pS 1) (pS 2)) mNil)))
def B__law_same (Fr : Fn) : M Fl := (mSeq (mIf (mB (m2 oIs (pS 1) (asP (mC .non)))) (mSeq (mRet (m2 oIs (pS 0) (asP (mC .non))))
  mNx) mNx)
  (mSeq (mIf (mTru (asP (mCall fIsi (mCons (pS 1) (mCons (asP (mC (.raw (.ty "bool")))) mNil))))) (mSeq (mRet (mAndV (mCall fIsi (mCons (pS 0) (mCons (asP (mC (.raw (.ty "bool")))) mNil))) (m2 oEq (pS 0) (pS 1))))
  mNx) mNx)
  (mSeq (mIf (mTru (asP (mCall fIsi (mCons (pS 1) (mCons (asP (mC (.raw (.ty "int")))) mNil))))) (mSeq (mRet (mAndV (mCall fIsi (mCons (pS 0) (mCons (asP (mC (.raw (.ty "int")))) mNil))) (mAndV (mNotV (mCall fIsi (mCons (pS 0) (mCons (asP (mC (.raw (.ty "bool")))) mNil)))) (m2 oEq (pS 0) (pS 1)))))
  mNx) mNx)
  (mSeq (mIf (mTru (asP (mCall fIsi (mCons (pS 1) (mCons (asP (mC (.raw (.ty "str")))) mNil))))) (mSeq (mRet (mAndV (mCall fIsi (mCons (pS 0) (mCons (asP (mC (.raw (.ty "str")))) mNil))) (m2 oEq (pS 0) (pS 1))))
  mNx) mNx)
  (mSeq (mIf (mTru (asP (mCall fIsi (mCons (pS 1) (mCons (asP (mC (.raw (.ty "dict")))) mNil))))) (mSeq (mRet (mAndV (mCall fIsi (mCons (pS 0) (mCons (asP (mC (.raw (.ty "dict")))) mNil))) (m2 oEq (pS 0) (pS 1))))
  mNx) mNx)
  (mSeq (mIf (mOr (mB (m2 oNe (asP (mCall fIsi (mCons (pS 1) (mCons (asP (mC (.raw (.ty "tuple")))) mNil)))) (asP (mCall fIsi (mCons (pS 0) (mCons (asP (mC (.raw (.ty "tuple")))) mNil)))))) (mB (m2 oNe (asP (mCall fIsi (mCons (pS 1) (mCons (asP (mC (.raw (.ty "list")))) mNil)))) (asP (mCall fIsi (mCons (pS 0) (mCons (asP (mC (.raw (.ty "list")))) mNil))))))) (mSeq (mRet (mC (.bl false)))
  mNx) mNx)
  (mSeq (mRet (mAndV (m2 oEq (asP (mCall fLen (mCons (pS 0) mNil))) (asP (mCall fLen (mCons (pS 1) mNil)))) (mCall fAll (mCons (asP (asD (mLc [2] (mRange1 (mCons (mCall fLen (mCons (pS 1) mNil)) mNil)) (tgN 2) mYes (L__law_same_0 Fr)))) mNil))))
  mNx)))))))
def F__law_same : Nat → Fn
  | 0 => fun _ => .bad
  | n + 1 => mFun none 1 (B__law_same (F__law_same n))

theorem sizeLine_big : 1000000 ≤ sizeLine := by decide
/-- the next of the draws -/
def tkV (xs : List Int) (n : Int) : Int := if xs = [] then 0 else xs.getLastD 0 % n
theorem tkV_lo {xs : List Int} {n : Int} (h : 0 < n) : 0 ≤ tkV xs n := by
  unfold tkV
  split
  · omega
  · exact Int.emod_nonneg _ (by omega)
theorem tkV_hi {xs : List Int} {n : Int} (h : 0 < n) : tkV xs n < n := by
  unfold tkV
  split
  · omega
  · exact Int.emod_lt_of_pos _ h
theorem take_ok {xs : List Int} {n : Int} (h : 0 < n) : F__law_take [.ow (.lst (xs.map .int)), .fz (.int n)] = .ok (.int (tkV xs n)) [.ow (.lst (xs.dropLast.map .int)), .fz (.int n)] := by
  rcases List.eq_nil_or_concat xs with e | ⟨ys, y, e⟩
  · subst e
    exact mFun_rt1 (j := 0) (sl := .ow (.lst [])) rfl (s := [.ow (.lst []), .fz (.int n)]) (by simp [B__law_take, tkV]) rfl
  · subst e
    have e : mFun (some 0) 0 B__law_take [.ow (.lst ((ys.concat y).map .int)), .fz (.int n)] = .ok (.int (y % n)) [.ow (.lst (ys.map .int)), .fz (.int n)] :=
      mFun_rt1 (j := 0) (sl := .ow (.lst (ys.map .int))) rfl (s := [.ow (.lst (ys.map .int)), .fz (.int n)]) (by
        have : ¬ ((ys.length : Int) + 1 = 0) := by omega
        simp [B__law_take, v_mod h, this]) rfl
    unfold F__law_take
    rw [e]
    simp [tkV]

/-! ### the draws -/
def AllI (xs : List D) : Prop := ∃ ns : List Int, xs = ns.map .int
theorem AllI.at {xs : List D} (h : AllI xs) {i : Nat} (hi : i < xs.length) : ∃ n, xs[i]? = some (.int n) := by
  obtain ⟨ns, rfl⟩ := h
  simp only [List.length_map] at hi
  exact ⟨ns[i], by simp [hi]⟩
theorem AllI.set {xs : List D} (h : AllI xs) (i : Nat) (n : Int) : AllI (xs.set i (.int n)) := by
  obtain ⟨ns, rfl⟩ := h
  exact ⟨ns.set i n, by simp⟩
theorem AllI.snoc {xs : List D} (h : AllI xs) (n : Int) : AllI (xs ++ [.int n]) := by
  obtain ⟨ns, rfl⟩ := h
  exact ⟨ns ++ [n], by simp⟩
theorem seq_nx {a b : M Fl} {s s1 : S} (h : a s = .ok .nx s1) : mSeq a b s = b s1 := by rw [e_mSeq, h]; rfl
theorem seq_rt {a b : M Fl} {s s1 : S} {d : D} (h : a s = .ok (.rt d) s1) : mSeq a b s = .ok (.rt d) s1 := by rw [e_mSeq, h]; rfl
theorem turn_ok {ns : List Int} {c : Int} {i : Nat} {cells found : List D} {m : Int} {a6 a7 a8 : Sl} (h1 : cells ≠ []) (h2 : AllI cells) (h3 : AllI found) (h4 : found.length < sizeLine) (h5 : 0 ≤ m) (h6 : m < 2147483647) :
    ∃ cells2 found2 m2 b6 b7 b8, L__law_draws_0 [.fz (.rls (ns.map .int)), .fz (.int c), .ow (.lst cells), .ow (.lst found), .fz (.int m), .fz (.int i), a6, a7, a8] = .ok .nx [.fz (.rls (ns.map .int)), .fz (.int c), .ow (.lst cells2), .ow (.lst found2), .fz (.int m2), .fz (.int i), b6, b7, b8] ∧
      cells2 ≠ [] ∧ AllI cells2 ∧ AllI found2 ∧ found2.length = found.length + 1 ∧ 0 ≤ m2 ∧ m2 < 2147483647 := by
  have lc : 0 < (cells.length : Int) := by
    have := List.length_pos_iff.mpr h1
    omega
  have j0 := Int.emod_nonneg (i : Int) (b := (cells.length : Int)) (by omega)
  have j1 := Int.emod_lt_of_pos (i : Int) lc
  obtain ⟨cell, hc⟩ := h2.at (i := ((i : Int) % (cells.length : Int)).toNat) (by omega)
  have hat := v_at j0 hc
  have k1 := v_mod (i := (i : Int)) lc
  have kx := v_ixN j0 j1
  have q1 : (m * 48271 + cell % 1000003 * 69621 + (i : Int) * 7919 + 11) % 2147483647 < 2147483647 := Int.emod_lt_of_pos _ (by omega)
  have q0 := Int.emod_nonneg (m * 48271 + cell % 1000003 * 69621 + (i : Int) * 7919 + 11) (b := 2147483647) (by omega)
  have e1 : ∀ z : Int, fMod z 1000003 = some (z % 1000003) := fun z => v_mod (by omega)
  have e2 : ∀ z : Int, fMod z 2147483647 = some (z % 2147483647) := fun z => v_mod (by omega)
  have e3 : ∀ z : Int, fMod z 1000 = some (z % 1000) := fun z => v_mod (by omega)
  have e4 : ∀ z : Int, fMul z 48271 = some (z * 48271) := fun z => v_mul (.inr (by decide))
  have e5 : ∀ z : Int, fMul z 69621 = some (z * 69621) := fun z => v_mul (.inr (by decide))
  have e6 : ∀ z : Int, fMul z 7919 = some (z * 7919) := fun z => v_mul (.inr (by decide))
  have e7 : ∀ z : Int, fMul 31 z = some (31 * z) := fun z => v_mul (.inl (by decide))
  have e8 : fPow 10 18 = some 1000000000000000000 := by rw [v_pow (by omega) (by omega) (by decide)]; rfl
  have e9 : fDiv cell 1000 = some (cell / 1000) := v_div (by omega) (by omega)
  unfold L__law_draws_0
  rw [seq_nx (s1 := [.fz (.rls (ns.map .int)), .fz (.int c), .ow (.lst cells), .ow (.lst found), .fz (.int m), .fz (.int i), .fz (.int ((i : Int) % (cells.length : Int))), a7, a8]) (by simp [k1])]
  rw [seq_nx (s1 := [.fz (.rls (ns.map .int)), .fz (.int c), .ow (.lst cells), .ow (.lst found), .fz (.int m), .fz (.int i), .fz (.int ((i : Int) % (cells.length : Int))), .fz (.int cell), a8]) (by simp [hat])]
  rw [seq_nx (s1 := [.fz (.rls (ns.map .int)), .fz (.int c), .ow (.lst cells), .ow (.lst found), .fz (.int ((m * 48271 + cell % 1000003 * 69621 + (i : Int) * 7919 + 11) % 2147483647)), .fz (.int i), .fz (.int ((i : Int) % (cells.length : Int))), .fz (.int cell), a8]) (by simp [e1, e2, e4, e5, e6])]
  generalize (m * 48271 + cell % 1000003 * 69621 + (i : Int) * 7919 + 11) % 2147483647 = m2 at q0 q1
  have e10 : fMul m2 m2 = some (m2 * m2) := v_mul (.inl (by omega))
  rw [seq_nx (s1 := [.fz (.rls (ns.map .int)), .fz (.int c), .ow (.lst cells), .ow (.lst found), .fz (.int m2), .fz (.int i), .fz (.int ((i : Int) % (cells.length : Int))), .fz (.int cell), .fz (.int ((m2 * m2 + 31 * m2 + i) % 1000003))]) (by simp [e1, e7, e10])]
  by_cases hb : 1000000000000000000 ≤ cell
  · refine ⟨cells.set ((i : Int) % (cells.length : Int)).toNat (.int (cell / 1000)), found ++ [.int (cell % 1000)], m2, .fz (.int ((i : Int) % (cells.length : Int))), .fz (.int cell), .fz (.int ((m2 * m2 + 31 * m2 + i) % 1000003)), by simp [e8, hb, e3, h4, e9, kx], by simpa using h1, h2.set _ _, h3.snoc _, by simp, q0, q1⟩
  · refine ⟨cells, found ++ [.int ((m2 * m2 + 31 * m2 + i) % 1000003 % 1000)], m2, .fz (.int ((i : Int) % (cells.length : Int))), .fz (.int cell), .fz (.int ((m2 * m2 + 31 * m2 + i) % 1000003)), by simp [e8, hb, e3, h4], h1, h2, h3.snoc _, by simp, q0, q1⟩
theorem draws_ok {ns : List Int} {c : Int} (h0 : 0 ≤ c) (h1 : c < 1000000) : ∃ xs : List Int, F__law_draws [.fz (.rls (ns.map .int)), .fz (.int c)] = .ok (.lst (xs.map .int)) [.fz (.rls (ns.map .int)), .fz (.int c)] := by
  have big := sizeLine_big
  suffices h : ∃ xs s, AllI xs ∧ B__law_draws ([.fz (.rls (ns.map .int)), .fz (.int c)] ++ List.replicate 7 .no) = .ok (.ro (.lst xs)) s by
    obtain ⟨xs, s, ⟨ns2, rfl⟩, e⟩ := h
    exact ⟨ns2, mFunO_ro rfl e⟩
  have rg := fun s => rg1 (j := c) s h0 (by omega)
  have start : ∃ cells : List D, cells ≠ [] ∧ AllI cells ∧ (mIf (mB (m2 oEq (asP (mCall fLen (mCons (pS 2) mNil))) (asP (mC (.int 0))))) (mSeq (mSetO 2 (mLst (mCons (mC (.int 7)) mNil))) mNx) mNx) [.fz (.rls (ns.map .int)), .fz (.int c), .ow (.lst (ns.map .int)), .no, .no, .no, .no, .no, .no] = .ok .nx [.fz (.rls (ns.map .int)), .fz (.int c), .ow (.lst cells), .no, .no, .no, .no, .no, .no] := by
    cases ns with
    | nil => exact ⟨[.int 7], by simp, ⟨[7], rfl⟩, by simp⟩
    | cons n ns =>
      refine ⟨(n :: ns).map .int, by simp, ⟨_, rfl⟩, ?_⟩
      have : ¬ ((ns.length : Int) + 1 = 0) := by omega
      simp [this]
  obtain ⟨cells, hne, hall, est⟩ := start
  obtain ⟨s', e, cells2, found, m, a5, a6, a7, a8, es, h1, h2, h3, h4, h5, h6⟩ := forGo_inv (st := tgN 5) (ds := rangeD 0 c.toNat) (body := L__law_draws_0) (s := [.fz (.rls (ns.map .int)), .fz (.int c), .ow (.lst cells), .ow (.lst []), .fz (.int 12345), .no, .no, .no, .no])
      (fun i s => ∃ cells found m a5 a6 a7 a8, s = [.fz (.rls (ns.map .int)), .fz (.int c), .ow (.lst cells), .ow (.lst found), .fz (.int m), a5, a6, a7, a8] ∧ cells ≠ [] ∧ AllI cells ∧ AllI found ∧ found.length = i ∧ 0 ≤ m ∧ m < 2147483647)
      ⟨cells, [], 12345, .no, .no, .no, .no, rfl, hne, hall, ⟨[], rfl⟩, rfl, by omega, by omega⟩ (fun i d s hd ⟨cells, found, m, a5, a6, a7, a8, es, h1, h2, h3, h4, h5, h6⟩ => by
        obtain ⟨hi, rfl⟩ := rangeD_at hd
        subst es
        obtain ⟨c2, f2, m2, b6, b7, b8, e, g⟩ := turn_ok (ns := ns) (c := c) (i := i) (a6 := a6) (a7 := a7) (a8 := a8) h1 h2 h3 (by omega) h5 h6
        refine ⟨_, _, rfl, .inl ?_, c2, f2, m2, .fz (.int i), b6, b7, b8, rfl, g.1, g.2.1, g.2.2.1, by omega, g.2.2.2.2⟩
        rw [← e]
        simp)
  subst es
  have h3' : AllI found.reverse := by
    obtain ⟨l, rfl⟩ := h3
    exact ⟨l.reverse, by simp⟩
  refine ⟨found.reverse, [.fz (.rls (ns.map .int)), .fz (.int c), .ow (.lst cells2), .ow (.lst found.reverse), .fz (.int m), a5, a6, a7, a8], h3', ?_⟩
  unfold B__law_draws
  rw [seq_nx (s1 := [.fz (.rls (ns.map .int)), .fz (.int c), .ow (.lst (ns.map .int)), .no, .no, .no, .no, .no, .no]) (by simp), seq_nx est, seq_nx (s1 := [.fz (.rls (ns.map .int)), .fz (.int c), .ow (.lst cells), .ow (.lst []), .no, .no, .no, .no, .no]) (by simp),
    seq_nx (s1 := [.fz (.rls (ns.map .int)), .fz (.int c), .ow (.lst cells), .ow (.lst []), .fz (.int 12345), .no, .no, .no, .no]) (by simp), seq_nx (s1 := [.fz (.rls (ns.map .int)), .fz (.int c), .ow (.lst cells2), .ow (.lst found), .fz (.int m), a5, a6, a7, a8]) (by simp [rg, e])]
  simp

/-! ### equal data are the same -/
/-- data that the comparing walks through in n steps -/
inductive D.Flat : Nat → D → Prop
  | non {n : Nat} : D.Flat (n + 1) .non
  | bl {n : Nat} (b : Bool) : D.Flat (n + 1) (.bl b)
  | int {n : Nat} (i : Int) : D.Flat (n + 1) (.int i)
  | str {n : Nat} (x : Str) : D.Flat (n + 1) (.str x)
  | lst {n : Nat} {xs : List D} (h : xs.length ≤ sizeLine) (r : ∀ d ∈ xs, D.Flat n d) : D.Flat (n + 1) (.lst xs)
  | tup {n : Nat} {xs : List D} (h : xs.length ≤ sizeLine) (r : ∀ d ∈ xs, D.Flat n d) : D.Flat (n + 1) (.tup xs)
theorem flat_ints {n : Nat} {ns : List Int} (h : ns.length ≤ sizeLine) : D.Flat (n + 2) (.lst (ns.map .int)) := .lst (by simpa using h) fun d hd => by
  obtain ⟨i, _, e⟩ := List.mem_map.mp hd
  rw [← e]
  exact .int i
theorem bools_true : ∀ {xs : List D}, (∀ d ∈ xs, d = .bl true) → ∃ bs, D.bools xs = some bs ∧ bs.all id = true
  | [], _ => ⟨[], rfl, rfl⟩
  | x :: xs, h => by
    obtain ⟨bs, e1, e2⟩ := bools_true fun d hd => h d (List.mem_cons_of_mem _ hd)
    have := h x List.mem_cons_self
    subst this
    exact ⟨true :: bs, by simp [D.bools, e1], by simpa using e2⟩
theorem same_each {Fr : Fn} {x : D} {xs : List D} {a b : Sl} (hx : x = .lst xs ∨ x = .tup xs) (h : ∀ (i : Nat) (d : D), xs[i]? = some d → Fr [.fz d, .fz d] = .ok (.bl true) [.fz d, .fz d]) :
    ∃ ys s', lcGo [2] (tgN 2) mYes (L__law_same_0 Fr) (rangeD 0 xs.length) [.fz x, .fz x, .no] = .ok ys s' ∧ s' = [.fz x, .fz x, .no] ∧ ys.length = xs.length ∧ ∀ d ∈ ys, d = .bl true := by
  obtain ⟨ys, s', e, h1, h2, h3⟩ := lcGo_inv (vs := [2]) (st := tgN 2) (e := L__law_same_0 Fr) (ds := rangeD 0 xs.length) (s := [.fz x, .fz x, .no]) (fun i ys s => s = [.fz x, .fz x, .no] ∧ ys.length = i ∧ ∀ d ∈ ys, d = .bl true) ⟨rfl, rfl, fun d z => nomatch z⟩
    (fun i d ys s hd ⟨es, hl, hy⟩ => by
      obtain ⟨hi, rfl⟩ := rangeD_at hd
      subst es
      have at1 : xs[i]? = some xs[i] := List.getElem?_eq_getElem hi
      have at2 : atI xs (i : Int) = some xs[i] := v_at (by omega) (by simpa using at1)
      have at3 : oIx x (.int i) = some xs[i] := by rcases hx with rfl | rfl <;> exact at2
      refine ⟨[.fz x, .fz x, .fz (.int i)], [.fz x, .fz x, .fz (.int i)], .bl true, by simp, ?_, rfl, by simp [hl], fun d z => ?_⟩
      · simp [L__law_same_0, at3, h i _ at1]
      · rcases List.mem_append.mp z with z | z
        · exact hy d z
        · simpa using z)
  exact ⟨ys, s', e, h1, by simpa [rangeD_len] using h2, h3⟩
theorem sizeLine_top : sizeLine ≤ 1000000000 := by decide
theorem same_seq {n : Nat} {x : D} {xs : List D} (ih : ∀ {x : D}, D.Flat n x → F__law_same n [.fz x, .fz x] = .ok (.bl true) [.fz x, .fz x]) (hx : x = .lst xs ∨ x = .tup xs) (hl : xs.length ≤ sizeLine) (hf : ∀ d ∈ xs, D.Flat n d) : ∃ ys, lcGo [2] (tgN 2) mYes (L__law_same_0 (F__law_same n)) (rangeD 0 xs.length) [.fz x, .fz x, .no] = .ok ys [.fz x, .fz x, .no] ∧ ys.length ≤ sizeLine ∧ fAll [.lst ys] = some (.bl true) := by
  obtain ⟨ys, s', e, rfl, hl2, hy⟩ := same_each (Fr := F__law_same n) (x := x) (a := .no) (b := .no) hx fun i d hd => ih (hf d (List.mem_of_getElem? hd))
  obtain ⟨bs, e1, e2⟩ := bools_true hy
  exact ⟨ys, e, by omega, by show (D.bools ys).bind _ = _; rw [e1]; simp [e2]⟩
theorem same_n {Fr : Fn} : B__law_same Fr [.fz .non, .fz .non, .no] = .ok (.rt (.bl true)) [.fz .non, .fz .non, .no] := by
  simp [B__law_same]
theorem same_b {Fr : Fn} {b : Bool} : B__law_same Fr [.fz (.bl b), .fz (.bl b), .no] = .ok (.rt (.bl true)) [.fz (.bl b), .fz (.bl b), .no] := by
  simp [B__law_same, v_isi (h := v_ty_b b), kitD]
theorem same_i {Fr : Fn} {b : Int} : B__law_same Fr [.fz (.int b), .fz (.int b), .no] = .ok (.rt (.bl true)) [.fz (.int b), .fz (.int b), .no] := by
  simp [B__law_same, v_isi (h := v_ty_i b), kitD]
theorem same_s {Fr : Fn} {b : Str} : B__law_same Fr [.fz (.str b), .fz (.str b), .no] = .ok (.rt (.bl true)) [.fz (.str b), .fz (.str b), .no] := by
  simp [B__law_same, v_isi (h := v_ty_s b), kitD]
theorem same_l {Fr : Fn} {xs ys : List D} (rg : xs.length ≤ 1000000000) (e : lcGo [2] (tgN 2) mYes (L__law_same_0 Fr) (rangeD 0 xs.length) [.fz (.lst xs), .fz (.lst xs), .no] = .ok ys [.fz (.lst xs), .fz (.lst xs), .no]) (le : ys.length ≤ sizeLine) (all : fAll [.lst ys] = some (.bl true)) : B__law_same Fr [.fz (.lst xs), .fz (.lst xs), .no] = .ok (.rt (.bl true)) [.fz (.lst xs), .fz (.lst xs), .no] := by
  simp [B__law_same, v_isi (h := v_ty_l xs), kitD, rg1n _ rg, e, lcEnd_of le, all]
theorem same_t {Fr : Fn} {xs ys : List D} (rg : xs.length ≤ 1000000000) (e : lcGo [2] (tgN 2) mYes (L__law_same_0 Fr) (rangeD 0 xs.length) [.fz (.tup xs), .fz (.tup xs), .no] = .ok ys [.fz (.tup xs), .fz (.tup xs), .no]) (le : ys.length ≤ sizeLine) (all : fAll [.lst ys] = some (.bl true)) : B__law_same Fr [.fz (.tup xs), .fz (.tup xs), .no] = .ok (.rt (.bl true)) [.fz (.tup xs), .fz (.tup xs), .no] := by
  simp [B__law_same, v_isi (h := v_ty_t xs), kitD, rg1n _ rg, e, lcEnd_of le, all]
theorem same_ok {n : Nat} {x : D} (h : D.Flat n x) : F__law_same n [.fz x, .fz x] = .ok (.bl true) [.fz x, .fz x] := by
  induction n generalizing x with
  | zero => cases h
  | succ n ih =>
    have go : B__law_same (F__law_same n) [.fz x, .fz x, .no] = .ok (.rt (.bl true)) [.fz x, .fz x, .no] → F__law_same (n + 1) [.fz x, .fz x] = .ok (.bl true) [.fz x, .fz x] := fun e => mFun_rt rfl e
    refine go ?_
    have top := sizeLine_top
    cases h with
    | non => exact same_n
    | bl b => exact same_b
    | int b => exact same_i
    | str b => exact same_s
    | lst h1 h2 =>
      obtain ⟨ys, e, le, all⟩ := same_seq ih (.inl rfl) h1 h2
      exact same_l (by omega) e le all
    | tup h1 h2 =>
      obtain ⟨ys, e, le, all⟩ := same_seq ih (.inr rfl) h1 h2
      exact same_t (by omega) e le all
end Mv

set_option Elab.async false
set_option linter.all false
set_option maxRecDepth 100000
/-! Mv16: loops over written lists, step by step. -/
namespace Mv
open PySem PySem.Spec PyProof.Rows L2
def kG (st : D → S → Option S) (body : M Fl) (ds : List D) : Fl → S → R Fl := fun f s2 => match f with
  | .nx => forGo st body ds s2
  | .ct => forGo st body ds s2
  | .bk => .ok .nx s2
  | .rt d => .ok (.rt d) s2
  | .ro o => .ok (.ro o) s2
section
variable {st st1 : D → S → Option S} {body : M Fl} {d : D} {ds : List D} {s s1 : S} {e : M D} {vs vs1 : List Nat} {mi1 : M (List D)}
theorem forGo_nil : forGo st body [] s = .ok .nx s := id rfl
theorem forGo_cons (h : st d s = some s1) : forGo st body (d :: ds) s = (body s1).bind (kG st body ds) := by
  unfold forGo
  rw [h]
  dsimp only
  congr 1
@[simp] theorem kG_nx : kG st body ds .nx s = forGo st body ds s := id rfl
@[simp] theorem kG_ct : kG st body ds .ct s = forGo st body ds s := id rfl
@[simp] theorem kG_bk : kG st body ds .bk s = .ok .nx s := id rfl
@[simp] theorem kG_rt {z : D} : kG st body ds (.rt z) s = .ok (.rt z) s := id rfl
def kLE2 (y : D) : List D → S → R (List D) := fun ys s => .ok (y :: ys) s
@[simp] theorem kLE2_e {y : D} {ys : List D} : kLE2 y ys s = .ok (y :: ys) s := id rfl
def kLE (vs : List Nat) (st : D → S → Option S) (e : M D) (ds : List D) : D → S → R (List D) := fun y s3 => (lcGo vs st mYes e ds (wipeS s3 vs)).bind (kLE2 y)
@[simp] theorem kLE_e {y : D} : kLE vs st e ds y s = (lcGo vs st mYes e ds (wipeS s vs)).bind (kLE2 y) := id rfl
theorem lcGo_nil : lcGo vs st mYes e [] s = .ok [] s := id rfl
theorem lcGo_cons (h : st d (wipeS s vs) = some s1) : lcGo vs st mYes e (d :: ds) s = (e s1).nox.bind (kLE vs st e ds) := by
  show (match st d (wipeS s vs) with
    | none => R.bad
    | some s1 => (mYes s1).nox.bind fun b s2 => if b = true then (e s2).nox.bind fun y s3 => (lcGo vs st mYes e ds (wipeS s3 vs)).bind fun ys s4 => .ok (y :: ys) s4 else lcGo vs st mYes e ds (wipeS s2 vs)) = _
  rw [h]
  rfl
def kL2b (ys : List D) : List D → S → R (List D) := fun zs s => .ok (ys ++ zs) s
@[simp] theorem kL2b_e {ys zs : List D} : kL2b ys zs s = .ok (ys ++ zs) s := id rfl
def kL2 (vs : List Nat) (st : D → S → Option S) (inner : M (List D)) (ds : List D) : List D → S → R (List D) := fun ys s => (lcGo2 vs st mYes inner ds (wipeS s vs)).bind (kL2b ys)
@[simp] theorem kL2_e {inner : M (List D)} {ys : List D} : kL2 vs st inner ds ys s = (lcGo2 vs st mYes inner ds (wipeS s vs)).bind (kL2b ys) := id rfl
theorem lcGo2_nil {inner : M (List D)} : lcGo2 vs st mYes inner [] s = .ok [] s := id rfl
theorem lcGo2_cons {inner : M (List D)} (h : st d (wipeS s vs) = some s1) : lcGo2 vs st mYes inner (d :: ds) s = (inner s1).nox.bind (kL2 vs st inner ds) := by
  show (match st d (wipeS s vs) with
    | none => R.bad
    | some s1 => (mYes s1).nox.bind fun b s2 => if b = true then (inner s2).nox.bind fun ys s3 => (lcGo2 vs st mYes inner ds (wipeS s3 vs)).bind fun zs s4 => .ok (ys ++ zs) s4 else lcGo2 vs st mYes inner ds (wipeS s2 vs)) = _
  rw [h]
  rfl
def kIn (vs1 : List Nat) (st1 : D → S → Option S) (e : M D) : List D → S → R (List D) := fun ds s => lcGo vs1 st1 mYes e ds s
@[simp] theorem kIn_e : kIn vs1 st1 e ds s = lcGo vs1 st1 mYes e ds s := id rfl
theorem lcIn_e : lcIn vs1 mi1 st1 mYes e s = (mi1 s).nox.bind (kIn vs1 st1 e) := id rfl
end
theorem range5 : rangeD 0 5 = [.int 0, .int 1, .int 2, .int 3, .int 4] := rfl
theorem and255 (x : Int) : Builtin.bitAnd x 255 = x % 256 := PyProof.Rows.bitAnd_m8 x
end Mv

set_option Elab.async false
set_option linter.all false
set_option maxRecDepth 100000
set_option maxHeartbeats 4000000
namespace Mv
open PySem PySem.Spec PyProof.Rows L2
def topS (i : Nat) : Stmt := PySem.Challenge.pw_paperark_k91_trees_of_sums.main.body.getD i (.Pass ⟨0, 0, 0, 0⟩)

/-! ### sum_of -/
abbrev s_sum_of : Stmt := topS 8
theorem sc_sum_of : FnScope ["octets", "found", "octet"] ["octets"] (defScope s_sum_of) := ⟨rfl, rfl, rfl, by decide +kernel, rfl, by decide +kernel, by decide +kernel⟩
def L_sum_of_0 : M Fl := (mSeq (mSet 1 (m2 oMod (asP (m2 oAdd (asP (m2 oAdd (asP (m2 oMul (asP (mC (.int 263))) (pS 1))) (pS 2))) (asP (mC (.int 1))))) (asP (mC (.int 34359738337)))))
  mNx)
def B_sum_of : M Fl := (mSeq (mSet 1 (mC (.int 7)))
  (mSeq (mFor (mItems (mV 0)) (tgN 2) L_sum_of_0)
  (mSeq (mRet (mV 1))
  mNx)))
def F_sum_of : Fn := mFun none 2 B_sum_of
section
variable {P : Program} {w : World} {K : PySem.W.Frag} {mg : Str → Option Value} {base : Heap} {T : List (Addr × Str)} {blts : List Str}
theorem ok_sum_of {f : Addr} {fd : FuncData} (Ff : Fun K "sum_of" "sum_of" s_sum_of f fd)
    (h_FACTOR : ∃ t, mg "FACTOR" = some (Value.int 263 t))
    (h_MODULUS : ∃ t, mg "MODULUS" = some (Value.int 34359738337 t))
    (h_FIRST : ∃ t, mg "FIRST" = some (Value.int 7 t)) :
    FnOk P w K mg base (L2.CX P w) 1 f fd ["octets"] (spF ⟨K, mg, T⟩ 1 F_sum_of) := by
  obtain ⟨t_FACTOR, g_FACTOR⟩ := h_FACTOR
  obtain ⟨t_MODULUS, g_MODULUS⟩ := h_MODULUS
  obtain ⟨t_FIRST, g_FIRST⟩ := h_FIRST
  refine fn_ok (j := 0) (n := 1) (k := 2) (io := none) (m := B_sum_of) Ff sc_sum_of rfl rfl fun cdv A outer s H E hr W0 tk => ?_
  exact (mss_cons (ms_set 1 sc_sum_of.nd (md_globI rfl g_FIRST))
  (mss_cons (ms_for (passes_of rfl) rfl (mi_seq (md_var 0)) (mg_name sc_sum_of.nd rfl (by first | exact .inl rfl | exact .inr rfl) (by decide)) (mss_cons (ms_set 1 sc_sum_of.nd (md_mod (MD.p (md_add (MD.p (md_add (MD.p (md_mul (MD.p (md_globI rfl g_FACTOR)) (mp_slot 1))) (mp_slot 2))) (MD.p md_int))) (MD.p (md_globI rfl g_MODULUS))))
  mss_nil))
  (mss_cons (ms_ret (md_var 1))
  mss_nil)))
end

/-! ### leaf_sum -/
abbrev s_leaf_sum : Stmt := topS 9
theorem sc_leaf_sum : FnScope ["octets"] ["octets"] (defScope s_leaf_sum) := ⟨rfl, rfl, rfl, by decide +kernel, rfl, by decide +kernel, by decide +kernel⟩
def B_leaf_sum : M Fl := (mSeq (mRet (mFn0 F_sum_of (mCons (m2 oAdd (asP (asD (mLst (mCons (mC (.int 0)) mNil)))) (asP (asD (mCall fList (mCons (pS 0) mNil))))) mNil)))
  mNx)
def F_leaf_sum : Fn := mFun none 0 B_leaf_sum
section
variable {P : Program} {w : World} {K : PySem.W.Frag} {mg : Str → Option Value} {base : Heap} {T : List (Addr × Str)} {blts : List Str}
theorem ok_leaf_sum {f : Addr} {fd : FuncData} (Ff : Fun K "leaf_sum" "leaf_sum" s_leaf_sum f fd)
    (h_sum_of : Def P w K mg base T "sum_of" ["octets"] 1 F_sum_of)
    (hb : ∀ x ∈ blts, mg x = none) (hbl : (["list"] : List Str) ⊆ blts) :
    FnOk P w K mg base (L2.CX P w) 2 f fd ["octets"] (spF ⟨K, mg, T⟩ 1 F_leaf_sum) := by
  obtain ⟨f_sum_of, fd_sum_of, m_sum_of, k_sum_of, b_sum_of, G_sum_of⟩ := h_sum_of
  have hb : ∀ x ∈ [("list" : Str)], mg x = none := fun x hx => hb x (hbl hx)
  refine fn_ok (j := 1) (n := 1) (k := 0) (io := none) (m := B_leaf_sum) Ff sc_leaf_sum rfl rfl fun cdv A outer s H E hr W0 tk => ?_
  exact (mss_cons (ms_ret (md_fn0 G_sum_of (hr.mono (by omega)) rfl m_sum_of k_sum_of b_sum_of tk (ma_cons (md_add (MD.p (MF.d (mf_lst (ma_cons md_int ma_nil)))) (MD.p (MF.d (mf_list rfl (hb "list" (by decide)) (mp_cons (mp_slot 0) mp_nil))))) ma_nil)))
  mss_nil)
end

/-! ### joint_sum -/
abbrev s_joint_sum : Stmt := topS 10
theorem sc_joint_sum : FnScope ["first", "second", "number", "at"] ["first", "second"] (defScope s_joint_sum) := ⟨rfl, rfl, rfl, by decide +kernel, rfl, by decide +kernel, by decide +kernel⟩
def L_joint_sum_0 : M D := (m2 oAnd (asP (m2 oShr (pS 2) (asP (m2 oMul (asP (mC (.int 8))) (pS 3))))) (asP (mC (.int 255))))
def B_joint_sum : M Fl := (mSeq (mRet (mFn0 F_sum_of (mCons (m2 oAdd (asP (asD (mLst (mCons (mC (.int 1)) mNil)))) (asP (asD (mLc2 [2, 3] [3] (mItems (mTup (mCons (mV 0) (mCons (mV 1) mNil)))) (tgN 2) mYes (mRange1 (mCons (mC (.int 5)) mNil)) (tgN 3) mYes L_joint_sum_0)))) mNil)))
  mNx)
def F_joint_sum : Fn := mFun none 2 B_joint_sum
section
variable {P : Program} {w : World} {K : PySem.W.Frag} {mg : Str → Option Value} {base : Heap} {T : List (Addr × Str)} {blts : List Str}
theorem ok_joint_sum {f : Addr} {fd : FuncData} (Ff : Fun K "joint_sum" "joint_sum" s_joint_sum f fd)
    (h_sum_of : Def P w K mg base T "sum_of" ["octets"] 1 F_sum_of)
    (hb : ∀ x ∈ blts, mg x = none) (hbl : (["range"] : List Str) ⊆ blts)
    (h_DIGITS : ∃ t, mg "DIGITS" = some (Value.int 5 t)) :
    FnOk P w K mg base (L2.CX P w) 2 f fd ["first", "second"] (spF ⟨K, mg, T⟩ 2 F_joint_sum) := by
  obtain ⟨f_sum_of, fd_sum_of, m_sum_of, k_sum_of, b_sum_of, G_sum_of⟩ := h_sum_of
  obtain ⟨t_DIGITS, g_DIGITS⟩ := h_DIGITS
  have hb : ∀ x ∈ [("range" : Str)], mg x = none := fun x hx => hb x (hbl hx)
  refine fn_ok (j := 1) (n := 2) (k := 2) (io := none) (m := B_joint_sum) Ff sc_joint_sum rfl rfl fun cdv A outer s H E hr W0 tk => ?_
  exact (mss_cons (ms_ret (md_fn0 G_sum_of (hr.mono (by omega)) rfl m_sum_of k_sum_of b_sum_of tk (ma_cons (md_add (MD.p (MF.d (mf_lst (ma_cons md_int ma_nil)))) (MD.p (MF.d (mf_lc2 (own := [("number", 2), ("at", 3)]) (vs1 := [3]) rfl sc_joint_sum.nd (mi_seq (md_tup (ma_cons (md_var 0) (ma_cons (md_var 1) ma_nil)))) (blkOk_by (N := ["first", "second", "number", "at"]) (sc := defScope s_joint_sum) (own := [("number", 2), ("at", 3)]) (by decide +kernel)) (by decide) (fun _ _ _ _ _ => (mgc_name sc_joint_sum.nd rfl (by first | exact .inl rfl | exact .inr rfl) (by decide))) (fun _ _ _ _ _ => mts_nil) (fun _ _ _ _ _ => (mi_range1 rfl (hb "range" (by decide)) (ma_cons (md_globI rfl g_DIGITS) ma_nil))) (fun _ _ _ _ _ => (mgc_name sc_joint_sum.nd rfl (by first | exact .inl rfl | exact .inr rfl) (by decide))) (fun _ _ _ _ _ => mts_nil) (fun _ _ _ _ _ => (md_band (MD.p (md_shr (mp_slot 2) (MD.p (md_mul (MD.p md_int) (mp_slot 3))))) (MD.p md_int))))))) ma_nil)))
  mss_nil)
end

/-! ### cut_of -/
abbrev s_cut_of : Stmt := topS 11
theorem sc_cut_of : FnScope ["count"] ["count"] (defScope s_cut_of) := ⟨rfl, rfl, rfl, by decide +kernel, rfl, by decide +kernel, by decide +kernel⟩
def B_cut_of : M Fl := (mSeq (mRet (m2 oShl (asP (mC (.int 1))) (asP (m2 oSub (asP (mBits (m2 oSub (pS 0) (asP (mC (.int 1)))))) (asP (mC (.int 1)))))))
  mNx)
def F_cut_of : Fn := mFun none 0 B_cut_of
section
variable {P : Program} {w : World} {K : PySem.W.Frag} {mg : Str → Option Value} {base : Heap} {T : List (Addr × Str)} {blts : List Str}
theorem ok_cut_of {f : Addr} {fd : FuncData} (Ff : Fun K "cut_of" "cut_of" s_cut_of f fd) :
    FnOk P w K mg base (L2.CX P w) 1 f fd ["count"] (spF ⟨K, mg, T⟩ 1 F_cut_of) := by
  refine fn_ok (j := 0) (n := 1) (k := 0) (io := none) (m := B_cut_of) Ff sc_cut_of rfl rfl fun cdv A outer s H E hr W0 tk => ?_
  exact (mss_cons (ms_ret (md_shl (MD.p md_int) (MD.p (md_sub (MD.p (md_bits (md_sub (mp_slot 0) (MD.p md_int)))) (MD.p md_int)))))
  mss_nil)
end

/-! ### root_of -/
abbrev s_root_of : Stmt := topS 12
theorem sc_root_of : FnScope ["items", "cut"] ["items"] (defScope s_root_of) := ⟨rfl, rfl, rfl, by decide +kernel, rfl, by decide +kernel, by decide +kernel⟩
def B_root_of (Fr : Fn) : M Fl := (mSeq (mIf (mB (m2 oEq (asP (mCall fLen (mCons (pS 0) mNil))) (asP (mC (.int 0))))) (mSeq (mRaise "InvalidProof")
  mNx) mNx)
  (mSeq (mIf (mB (m2 oEq (asP (mCall fLen (mCons (pS 0) mNil))) (asP (mC (.int 1))))) (mSeq (mRet (mFn0 F_leaf_sum (mCons (m2 oIx (pS 0) (asP (mC (.int 0)))) mNil)))
  mNx) mNx)
  (mSeq (mSet 1 (mFn0 F_cut_of (mCons (mCall fLen (mCons (pS 0) mNil)) mNil)))
  (mSeq (mRet (mFn0 F_joint_sum (mCons (mFn0 Fr (mCons (mSl oSl (pS 0) mNo (mSome (mV 1))) mNil)) (mCons (mFn0 Fr (mCons (mSl oSl (pS 0) (mSome (mV 1)) mNo) mNil)) mNil))))
  mNx))))
def F_root_of : Nat → Fn
  | 0 => fun _ => .bad
  | n + 1 => mFun none 1 (B_root_of (F_root_of n))
section
variable {P : Program} {w : World} {K : PySem.W.Frag} {mg : Str → Option Value} {base : Heap} {T : List (Addr × Str)} {blts : List Str}
theorem ok_root_of {f : Addr} {fd : FuncData} (Ff : Fun K "root_of" "root_of" s_root_of f fd)
    (mf : mg "root_of" = some (.ref f)) (bf : L2.Binds K fd ["items"] [])
    (h_joint_sum : Def P w K mg base T "joint_sum" ["first", "second"] 2 F_joint_sum)
    (h_cut_of : Def P w K mg base T "cut_of" ["count"] 1 F_cut_of)
    (h_leaf_sum : Def P w K mg base T "leaf_sum" ["octets"] 2 F_leaf_sum)
    (hb : ∀ x ∈ blts, mg x = none) (hbl : (["len"] : List Str) ⊆ blts)
    (h_InvalidProof : ExcF K mg "InvalidProof") (n : Nat) :
    FnOk P w K mg base (L2.CX P w) (2 + n) f fd ["items"] (spF ⟨K, mg, T⟩ 1 (F_root_of n)) := by
  obtain ⟨f_joint_sum, fd_joint_sum, m_joint_sum, k_joint_sum, b_joint_sum, G_joint_sum⟩ := h_joint_sum
  obtain ⟨f_cut_of, fd_cut_of, m_cut_of, k_cut_of, b_cut_of, G_cut_of⟩ := h_cut_of
  obtain ⟨f_leaf_sum, fd_leaf_sum, m_leaf_sum, k_leaf_sum, b_leaf_sum, G_leaf_sum⟩ := h_leaf_sum
  obtain ⟨C_InvalidProof, E_InvalidProof⟩ := h_InvalidProof
  have hb : ∀ x ∈ [("len" : Str)], mg x = none := fun x hx => hb x (hbl hx)
  induction n with
  | zero => exact fnok_bad rfl
  | succ n ih =>
    have G_root_of := ih; have m_root_of := mf; have k_root_of := Ff.kp; have b_root_of := bf
    refine fn_ok (j := 2 + n) (n := 1) (k := 1) (io := none) (m := B_root_of (F_root_of n)) Ff sc_root_of rfl rfl fun cdv A outer s H E hr W0 tk => ?_
    exact (mss_cons (ms_if (mt_cmp (c_eq hr.units) (MD.p (md_len rfl (hb "len" (by decide)) (mp_cons (mp_slot 0) mp_nil))) (MD.p md_int)) (mss_cons (ms_raise PySem.F.excBase_ValueError E_InvalidProof.ex E_InvalidProof.mg E_InvalidProof.kp (raises_own E_InvalidProof.sub E_InvalidProof.ty) rfl rfl tk)
  mss_nil) mss_nil)
  (mss_cons (ms_if (mt_cmp (c_eq hr.units) (MD.p (md_len rfl (hb "len" (by decide)) (mp_cons (mp_slot 0) mp_nil))) (MD.p md_int)) (mss_cons (ms_ret (md_fn0 G_leaf_sum (hr.mono (by omega)) rfl m_leaf_sum k_leaf_sum b_leaf_sum tk (ma_cons (md_ix (mp_slot 0) (MD.p md_int)) ma_nil)))
  mss_nil) mss_nil)
  (mss_cons (ms_set 1 sc_root_of.nd (md_fn0 G_cut_of (hr.mono (by omega)) rfl m_cut_of k_cut_of b_cut_of tk (ma_cons (md_len rfl (hb "len" (by decide)) (mp_cons (mp_slot 0) mp_nil)) ma_nil)))
  (mss_cons (ms_ret (md_fn0 G_joint_sum (hr.mono (by omega)) rfl m_joint_sum k_joint_sum b_joint_sum tk (ma_cons (md_fn0 G_root_of (hr.mono (by omega)) rfl m_root_of k_root_of b_root_of tk (ma_cons (md_slice (mp_slot 0) mn_no (mn_some (md_var 1))) ma_nil)) (ma_cons (md_fn0 G_root_of (hr.mono (by omega)) rfl m_root_of k_root_of b_root_of tk (ma_cons (md_slice (mp_slot 0) (mn_some (md_var 1)) mn_no) ma_nil)) ma_nil))))
  mss_nil))))
end

/-! ### item_proof -/
abbrev s_item_proof : Stmt := topS 13
theorem sc_item_proof : FnScope ["items", "index", "cut"] ["items", "index"] (defScope s_item_proof) := ⟨rfl, rfl, rfl, by decide +kernel, rfl, by decide +kernel, by decide +kernel⟩
def B_item_proof (Fr : Fn) : M Fl := (mSeq (mIf (mNot (mB (mChain oLe oLt (asP (mC (.int 0))) (pS 1) (asP (mCall fLen (mCons (pS 0) mNil)))))) (mSeq (mRaise "InvalidProof")
  mNx) mNx)
  (mSeq (mIf (mB (m2 oEq (asP (mCall fLen (mCons (pS 0) mNil))) (asP (mC (.int 1))))) (mSeq (mRet (asD (mLst mNil)))
  mNx) mNx)
  (mSeq (mSet 2 (mFn0 F_cut_of (mCons (mCall fLen (mCons (pS 0) mNil)) mNil)))
  (mSeq (mIf (mB (m2 oLt (pS 1) (pS 2))) (mSeq (mRet (m2 oAdd (asP (mFn0 Fr (mCons (mSl oSl (pS 0) mNo (mSome (mV 2))) (mCons (mV 1) mNil)))) (asP (asD (mLst (mCons (mFn0 (F_root_of 12) (mCons (mSl oSl (pS 0) (mSome (mV 2)) mNo) mNil)) mNil))))))
  mNx) mNx)
  (mSeq (mRet (m2 oAdd (asP (mFn0 Fr (mCons (mSl oSl (pS 0) (mSome (mV 2)) mNo) (mCons (m2 oSub (pS 1) (pS 2)) mNil)))) (asP (asD (mLst (mCons (mFn0 (F_root_of 12) (mCons (mSl oSl (pS 0) mNo (mSome (mV 2))) mNil)) mNil))))))
  mNx)))))
def F_item_proof : Nat → Fn
  | 0 => fun _ => .bad
  | n + 1 => mFun none 1 (B_item_proof (F_item_proof n))
section
variable {P : Program} {w : World} {K : PySem.W.Frag} {mg : Str → Option Value} {base : Heap} {T : List (Addr × Str)} {blts : List Str}
theorem ok_item_proof {f : Addr} {fd : FuncData} (Ff : Fun K "item_proof" "item_proof" s_item_proof f fd)
    (mf : mg "item_proof" = some (.ref f)) (bf : L2.Binds K fd ["items", "index"] [])
    (h_root_of : Def P w K mg base T "root_of" ["items"] 14 (F_root_of 12))
    (h_cut_of : Def P w K mg base T "cut_of" ["count"] 1 F_cut_of)
    (hb : ∀ x ∈ blts, mg x = none) (hbl : (["len"] : List Str) ⊆ blts)
    (h_InvalidProof : ExcF K mg "InvalidProof") (n : Nat) :
    FnOk P w K mg base (L2.CX P w) (14 + n) f fd ["items", "index"] (spF ⟨K, mg, T⟩ 2 (F_item_proof n)) := by
  obtain ⟨f_root_of, fd_root_of, m_root_of, k_root_of, b_root_of, G_root_of⟩ := h_root_of
  obtain ⟨f_cut_of, fd_cut_of, m_cut_of, k_cut_of, b_cut_of, G_cut_of⟩ := h_cut_of
  obtain ⟨C_InvalidProof, E_InvalidProof⟩ := h_InvalidProof
  have hb : ∀ x ∈ [("len" : Str)], mg x = none := fun x hx => hb x (hbl hx)
  induction n with
  | zero => exact fnok_bad rfl
  | succ n ih =>
    have G_item_proof := ih; have m_item_proof := mf; have k_item_proof := Ff.kp; have b_item_proof := bf
    refine fn_ok (j := 14 + n) (n := 2) (k := 1) (io := none) (m := B_item_proof (F_item_proof n)) Ff sc_item_proof rfl rfl fun cdv A outer s H E hr W0 tk => ?_
    exact (mss_cons (ms_if (mt_not (mt_chain c_le c_lt (MD.p md_int) (mp_slot 1) (MD.p (md_len rfl (hb "len" (by decide)) (mp_cons (mp_slot 0) mp_nil))))) (mss_cons (ms_raise PySem.F.excBase_ValueError E_InvalidProof.ex E_InvalidProof.mg E_InvalidProof.kp (raises_own E_InvalidProof.sub E_InvalidProof.ty) rfl rfl tk)
  mss_nil) mss_nil)
  (mss_cons (ms_if (mt_cmp (c_eq hr.units) (MD.p (md_len rfl (hb "len" (by decide)) (mp_cons (mp_slot 0) mp_nil))) (MD.p md_int)) (mss_cons (ms_ret (MF.d (mf_lst ma_nil)))
  mss_nil) mss_nil)
  (mss_cons (ms_set 2 sc_item_proof.nd (md_fn0 G_cut_of (hr.mono (by omega)) rfl m_cut_of k_cut_of b_cut_of tk (ma_cons (md_len rfl (hb "len" (by decide)) (mp_cons (mp_slot 0) mp_nil)) ma_nil)))
  (mss_cons (ms_if (mt_cmp c_lt (mp_slot 1) (mp_slot 2)) (mss_cons (ms_ret (md_add (MD.p (md_fn0 G_item_proof (hr.mono (by omega)) rfl m_item_proof k_item_proof b_item_proof tk (ma_cons (md_slice (mp_slot 0) mn_no (mn_some (md_var 2))) (ma_cons (md_var 1) ma_nil)))) (MD.p (MF.d (mf_lst (ma_cons (md_fn0 G_root_of (hr.mono (by omega)) rfl m_root_of k_root_of b_root_of tk (ma_cons (md_slice (mp_slot 0) (mn_some (md_var 2)) mn_no) ma_nil)) ma_nil))))))
  mss_nil) mss_nil)
  (mss_cons (ms_ret (md_add (MD.p (md_fn0 G_item_proof (hr.mono (by omega)) rfl m_item_proof k_item_proof b_item_proof tk (ma_cons (md_slice (mp_slot 0) (mn_some (md_var 2)) mn_no) (ma_cons (md_sub (mp_slot 1) (mp_slot 2)) ma_nil)))) (MD.p (MF.d (mf_lst (ma_cons (md_fn0 G_root_of (hr.mono (by omega)) rfl m_root_of k_root_of b_root_of tk (ma_cons (md_slice (mp_slot 0) mn_no (mn_some (md_var 2))) ma_nil)) ma_nil))))))
  mss_nil)))))
end

/-! ### climbed -/
abbrev s_climbed : Stmt := topS 14
theorem sc_climbed : FnScope ["count", "index", "found", "proof", "cut", "told", "mine", "rest"] ["count", "index", "found", "proof"] (defScope s_climbed) := ⟨rfl, rfl, rfl, by decide +kernel, rfl, by decide +kernel, by decide +kernel⟩
def B_climbed (Fr : Fn) : M Fl := (mSeq (mIf (mB (m2 oEq (pS 0) (asP (mC (.int 1))))) (mSeq (mRet (mTup (mCons (mV 2) (mCons (mV 3) mNil))))
  mNx) mNx)
  (mSeq (mSet 4 (mFn0 F_cut_of (mCons (mV 0) mNil)))
  (mSeq (mSet 5 (mIf (mB (m2 oLt (pS 1) (pS 4))) (mFn0 Fr (mCons (mV 4) (mCons (mV 1) (mCons (mV 2) (mCons (mV 3) mNil))))) (mFn0 Fr (mCons (m2 oSub (pS 0) (pS 4)) (mCons (m2 oSub (pS 1) (pS 4)) (mCons (mV 2) (mCons (mV 3) mNil)))))))
  (mSeq (mIf (mOr (mB (m2 oIs (pS 5) (asP (mC .non)))) (mNot (mTru (asP (m2 oIx (pS 5) (asP (mC (.int 1)))))))) (mSeq (mRet (mC .non))
  mNx) mNx)
  (mSeq (mAsg (mV 5) (tgT (tgsC (tgN 6) (tgsC (tgN 7) tgs0))))
  (mSeq (mRet (mTup (mCons (mIf (mB (m2 oLt (pS 1) (pS 4))) (mFn0 F_joint_sum (mCons (mV 6) (mCons (m2 oIx (pS 7) (asP (mC (.int 0)))) mNil))) (mFn0 F_joint_sum (mCons (m2 oIx (pS 7) (asP (mC (.int 0)))) (mCons (mV 6) mNil)))) (mCons (mSl oSl (pS 7) (mSome (mC (.int 1))) mNo) mNil))))
  mNx))))))
def F_climbed : Nat → Fn
  | 0 => fun _ => .bad
  | n + 1 => mFun none 4 (B_climbed (F_climbed n))
section
variable {P : Program} {w : World} {K : PySem.W.Frag} {mg : Str → Option Value} {base : Heap} {T : List (Addr × Str)} {blts : List Str}
theorem ok_climbed {f : Addr} {fd : FuncData} (Ff : Fun K "climbed" "climbed" s_climbed f fd)
    (mf : mg "climbed" = some (.ref f)) (bf : L2.Binds K fd ["count", "index", "found", "proof"] [])
    (h_joint_sum : Def P w K mg base T "joint_sum" ["first", "second"] 2 F_joint_sum)
    (h_cut_of : Def P w K mg base T "cut_of" ["count"] 1 F_cut_of) (n : Nat) :
    FnOk P w K mg base (L2.CX P w) (2 + n) f fd ["count", "index", "found", "proof"] (spF ⟨K, mg, T⟩ 4 (F_climbed n)) := by
  obtain ⟨f_joint_sum, fd_joint_sum, m_joint_sum, k_joint_sum, b_joint_sum, G_joint_sum⟩ := h_joint_sum
  obtain ⟨f_cut_of, fd_cut_of, m_cut_of, k_cut_of, b_cut_of, G_cut_of⟩ := h_cut_of
  induction n with
  | zero => exact fnok_bad rfl
  | succ n ih =>
    have G_climbed := ih; have m_climbed := mf; have k_climbed := Ff.kp; have b_climbed := bf
    refine fn_ok (j := 2 + n) (n := 4) (k := 4) (io := none) (m := B_climbed (F_climbed n)) Ff sc_climbed rfl rfl fun cdv A outer s H E hr W0 tk => ?_
    exact (mss_cons (ms_if (mt_cmp (c_eq hr.units) (mp_slot 0) (MD.p md_int)) (mss_cons (ms_ret (md_tup (ma_cons (md_var 2) (ma_cons (md_var 3) ma_nil))))
  mss_nil) mss_nil)
  (mss_cons (ms_set 4 sc_climbed.nd (md_fn0 G_cut_of (hr.mono (by omega)) rfl m_cut_of k_cut_of b_cut_of tk (ma_cons (md_var 0) ma_nil)))
  (mss_cons (ms_set 5 sc_climbed.nd (md_if (mt_cmp c_lt (mp_slot 1) (mp_slot 4)) (md_fn0 G_climbed (hr.mono (by omega)) rfl m_climbed k_climbed b_climbed tk (ma_cons (md_var 4) (ma_cons (md_var 1) (ma_cons (md_var 2) (ma_cons (md_var 3) ma_nil))))) (md_fn0 G_climbed (hr.mono (by omega)) rfl m_climbed k_climbed b_climbed tk (ma_cons (md_sub (mp_slot 0) (mp_slot 4)) (ma_cons (md_sub (mp_slot 1) (mp_slot 4)) (ma_cons (md_var 2) (ma_cons (md_var 3) ma_nil)))))))
  (mss_cons (ms_if (MW.t (mw_or (mt_cmp c_is (mp_slot 5) (MD.p md_non)) (mw_or1 (mt_not (mt_tru (MD.p (md_ix (mp_slot 5) (MD.p md_int)))))))) (mss_cons (ms_ret md_non)
  mss_nil) mss_nil)
  (mss_cons (ms_asg (md_var 5) (mg_tup rfl (mgs_cons (mg_name sc_climbed.nd rfl (by first | exact .inl rfl | exact .inr rfl) (by decide)) (mgs_cons (mg_name sc_climbed.nd rfl (by first | exact .inl rfl | exact .inr rfl) (by decide)) mgs_nil))))
  (mss_cons (ms_ret (md_tup (ma_cons (md_if (mt_cmp c_lt (mp_slot 1) (mp_slot 4)) (md_fn0 G_joint_sum (hr.mono (by omega)) rfl m_joint_sum k_joint_sum b_joint_sum tk (ma_cons (md_var 6) (ma_cons (md_ix (mp_slot 7) (MD.p md_int)) ma_nil))) (md_fn0 G_joint_sum (hr.mono (by omega)) rfl m_joint_sum k_joint_sum b_joint_sum tk (ma_cons (md_ix (mp_slot 7) (MD.p md_int)) (ma_cons (md_var 6) ma_nil)))) (ma_cons (md_slice (mp_slot 7) (mn_some md_int) mn_no) ma_nil))))
  mss_nil))))))
end

/-! ### takes_item -/
abbrev s_takes_item : Stmt := topS 15
theorem sc_takes_item : FnScope ["root", "count", "index", "octets", "proof"] ["root", "count", "index", "octets", "proof"] (defScope s_takes_item) := ⟨rfl, rfl, rfl, by decide +kernel, rfl, by decide +kernel, by decide +kernel⟩
def B_takes_item : M Fl := (mSeq (mIf (mNot (mB (mChain oLe oLt (asP (mC (.int 0))) (pS 2) (pS 1)))) (mSeq (mRet (mC (.bl false)))
  mNx) mNx)
  (mSeq (mRet (m2 oEq (asP (mFn0 (F_climbed 12) (mCons (mV 1) (mCons (mV 2) (mCons (mFn0 F_leaf_sum (mCons (mV 3) mNil)) (mCons (asD (mCall fList (mCons (pS 4) mNil))) mNil)))))) (asP (mTup (mCons (mV 0) (mCons (asD (mLst mNil)) mNil))))))
  mNx))
def F_takes_item : Fn := mFun none 0 B_takes_item
section
variable {P : Program} {w : World} {K : PySem.W.Frag} {mg : Str → Option Value} {base : Heap} {T : List (Addr × Str)} {blts : List Str}
theorem ok_takes_item {f : Addr} {fd : FuncData} (Ff : Fun K "takes_item" "takes_item" s_takes_item f fd)
    (h_climbed : Def P w K mg base T "climbed" ["count", "index", "found", "proof"] 14 (F_climbed 12))
    (h_leaf_sum : Def P w K mg base T "leaf_sum" ["octets"] 2 F_leaf_sum)
    (hb : ∀ x ∈ blts, mg x = none) (hbl : (["list"] : List Str) ⊆ blts) :
    FnOk P w K mg base (L2.CX P w) 15 f fd ["root", "count", "index", "octets", "proof"] (spF ⟨K, mg, T⟩ 5 F_takes_item) := by
  obtain ⟨f_climbed, fd_climbed, m_climbed, k_climbed, b_climbed, G_climbed⟩ := h_climbed
  obtain ⟨f_leaf_sum, fd_leaf_sum, m_leaf_sum, k_leaf_sum, b_leaf_sum, G_leaf_sum⟩ := h_leaf_sum
  have hb : ∀ x ∈ [("list" : Str)], mg x = none := fun x hx => hb x (hbl hx)
  refine fn_ok (j := 14) (n := 5) (k := 0) (io := none) (m := B_takes_item) Ff sc_takes_item rfl rfl fun cdv A outer s H E hr W0 tk => ?_
  exact (mss_cons (ms_if (mt_not (mt_chain c_le c_lt (MD.p md_int) (mp_slot 2) (mp_slot 1))) (mss_cons (ms_ret md_bl)
  mss_nil) mss_nil)
  (mss_cons (ms_ret (md_cmp (c_eq hr.units) (MD.p (md_fn0 G_climbed (hr.mono (by omega)) rfl m_climbed k_climbed b_climbed tk (ma_cons (md_var 1) (ma_cons (md_var 2) (ma_cons (md_fn0 G_leaf_sum (hr.mono (by omega)) rfl m_leaf_sum k_leaf_sum b_leaf_sum tk (ma_cons (md_var 3) ma_nil)) (ma_cons (MF.d (mf_list rfl (hb "list" (by decide)) (mp_cons (mp_slot 4) mp_nil))) ma_nil)))))) (MD.p (md_tup (ma_cons (md_var 0) (ma_cons (MF.d (mf_lst ma_nil)) ma_nil))))))
  mss_nil))
end

/-! ### _law_draws -/
abbrev s__law_draws : Stmt := topS 17
theorem sc__law_draws : FnScope ["script", "count", "cells", "found", "mixed", "k", "j", "cell", "again"] ["script", "count"] (defScope s__law_draws) := ⟨rfl, rfl, rfl, by decide +kernel, rfl, by decide +kernel, by decide +kernel⟩
section
variable {P : Program} {w : World} {K : PySem.W.Frag} {mg : Str → Option Value} {base : Heap} {T : List (Addr × Str)} {blts : List Str}
theorem ok__law_draws {f : Addr} {fd : FuncData} (Ff : Fun K "_law_draws" "_law_draws" s__law_draws f fd)
    (hb : ∀ x ∈ blts, mg x = none) (hbl : (["int", "len", "list", "range"] : List Str) ⊆ blts) :
    FnOk P w K mg base (L2.CX P w) 1 f fd ["script", "count"] (spFO ⟨K, mg, T⟩ 2 F__law_draws) := by
  have hb : ∀ x ∈ [("int" : Str), ("len" : Str), ("list" : Str), ("range" : Str)], mg x = none := fun x hx => hb x (hbl hx)
  refine fn_okO (j := 0) (n := 2) (k := 7) (m := B__law_draws) Ff sc__law_draws rfl rfl fun cdv A outer s H E hr W0 tk => ?_
  exact (mss_cons (ms_setO 2 sc__law_draws.nd (mf_list rfl (hb "list" (by decide)) (mp_cons (mp_slot 0) mp_nil)))
  (mss_cons (ms_if (mt_cmp (c_eq hr.units) (MD.p (md_len rfl (hb "len" (by decide)) (mp_cons (mp_slot 2) mp_nil))) (MD.p md_int)) (mss_cons (ms_setO 2 sc__law_draws.nd (mf_lst (ma_cons md_int ma_nil)))
  mss_nil) mss_nil)
  (mss_cons (ms_setO 3 sc__law_draws.nd (mf_lst ma_nil))
  (mss_cons (ms_set 4 sc__law_draws.nd md_int)
  (mss_cons (ms_for (passes_of rfl) rfl (mi_range1 rfl (hb "range" (by decide)) (ma_cons (md_var 1) ma_nil)) (mg_name sc__law_draws.nd rfl (by first | exact .inl rfl | exact .inr rfl) (by decide)) (mss_cons (ms_set 6 sc__law_draws.nd (md_mod (mp_slot 5) (MD.p (md_len rfl (hb "len" (by decide)) (mp_cons (mp_slot 2) mp_nil)))))
  (mss_cons (ms_set 7 sc__law_draws.nd (md_ix (mp_slot 2) (mp_slot 6)))
  (mss_cons (ms_set 4 sc__law_draws.nd (md_mod (MD.p (md_intc rfl (hb "int" (by decide)) (mp_cons (MD.p (md_add (MD.p (md_add (MD.p (md_add (MD.p (md_mul (mp_slot 4) (MD.p md_int))) (MD.p (md_mul (MD.p (md_mod (MD.p (md_intc rfl (hb "int" (by decide)) (mp_cons (mp_slot 7) mp_nil))) (MD.p md_int))) (MD.p md_int))))) (MD.p (md_mul (mp_slot 5) (MD.p md_int))))) (MD.p md_int))) mp_nil))) (MD.p md_int)))
  (mss_cons (ms_set 8 sc__law_draws.nd (md_mod (MD.p (md_intc rfl (hb "int" (by decide)) (mp_cons (MD.p (md_add (MD.p (md_add (MD.p (md_mul (mp_slot 4) (mp_slot 4))) (MD.p (md_mul (MD.p md_int) (mp_slot 4))))) (mp_slot 5))) mp_nil))) (MD.p md_int)))
  (mss_cons (ms_if (mt_cmp c_ge (mp_slot 7) (MD.p (md_pow (MD.p md_int) (MD.p md_int)))) (mss_cons (ms_app 3 (md_mod (MD.p (md_intc rfl (hb "int" (by decide)) (mp_cons (mp_slot 7) mp_nil))) (MD.p md_int)))
  (mss_cons (ms_seti 2 (md_fdiv (mp_slot 7) (MD.p md_int)) (md_var 6) (fun _ _ q g => ps_asg q g) (fun _ _ q r => pg_sub q r set_list))
  mss_nil)) (mss_cons (ms_app 3 (md_mod (MD.p (md_intc rfl (hb "int" (by decide)) (mp_cons (mp_slot 8) mp_nil))) (MD.p md_int)))
  mss_nil))
  mss_nil))))))
  (mss_cons (ms_rev 3)
  (mss_cons (ms_retO 3)
  mss_nil)))))))
end

/-! ### _law_take -/
abbrev s__law_take : Stmt := topS 18
theorem sc__law_take : FnScope ["draws", "limit"] ["draws", "limit"] (defScope s__law_take) := ⟨rfl, rfl, rfl, by decide +kernel, rfl, by decide +kernel, by decide +kernel⟩
section
variable {P : Program} {w : World} {K : PySem.W.Frag} {mg : Str → Option Value} {base : Heap} {T : List (Addr × Str)} {blts : List Str}
theorem ok__law_take {f : Addr} {fd : FuncData} (Ff : Fun K "_law_take" "_law_take" s__law_take f fd)
    (hb : ∀ x ∈ blts, mg x = none) (hbl : (["int", "len"] : List Str) ⊆ blts) :
    FnOk P w K mg base (L2.CX P w) 1 f fd ["draws", "limit"] (spF ⟨K, mg, T⟩ 2 F__law_take) := by
  have hb : ∀ x ∈ [("int" : Str), ("len" : Str)], mg x = none := fun x hx => hb x (hbl hx)
  refine fn_ok (j := 0) (n := 2) (k := 0) (io := (some 0)) (m := B__law_take) Ff sc__law_take rfl rfl fun cdv A outer s H E hr W0 tk => ?_
  exact (mss_cons (ms_if (mt_cmp (c_eq hr.units) (MD.p (md_len rfl (hb "len" (by decide)) (mp_cons (mp_slot 0) mp_nil))) (MD.p md_int)) (mss_cons (ms_ret md_int)
  mss_nil) mss_nil)
  (mss_cons (ms_ret (md_mod (MD.p (md_intc rfl (hb "int" (by decide)) (mp_cons (MD.p (md_pop 0)) mp_nil))) (mp_slot 1)))
  mss_nil))
end

/-! ### _law_same -/
abbrev s__law_same : Stmt := topS 19
theorem sc__law_same : FnScope ["found", "due", "k"] ["found", "due"] (defScope s__law_same) := ⟨rfl, rfl, rfl, by decide +kernel, rfl, by decide +kernel, by decide +kernel⟩
section
variable {P : Program} {w : World} {K : PySem.W.Frag} {mg : Str → Option Value} {base : Heap} {T : List (Addr × Str)} {blts : List Str}
theorem ok__law_same {f : Addr} {fd : FuncData} (Ff : Fun K "_law_same" "_law_same" s__law_same f fd)
    (mf : mg "_law_same" = some (.ref f)) (bf : L2.Binds K fd ["found", "due"] [])
    (hb : ∀ x ∈ blts, mg x = none) (hbl : (["all", "bool", "dict", "int", "isinstance", "len", "list", "range", "str", "tuple"] : List Str) ⊆ blts) (n : Nat) :
    FnOk P w K mg base (L2.CX P w) (0 + n) f fd ["found", "due"] (spF ⟨K, mg, T⟩ 2 (F__law_same n)) := by
  have hb : ∀ x ∈ [("all" : Str), ("bool" : Str), ("dict" : Str), ("int" : Str), ("isinstance" : Str), ("len" : Str), ("list" : Str), ("range" : Str), ("str" : Str), ("tuple" : Str)], mg x = none := fun x hx => hb x (hbl hx)
  induction n with
  | zero => exact fnok_bad rfl
  | succ n ih =>
    have G__law_same := ih; have m__law_same := mf; have k__law_same := Ff.kp; have b__law_same := bf
    refine fn_ok (j := 0 + n) (n := 2) (k := 1) (io := none) (m := B__law_same (F__law_same n)) Ff sc__law_same rfl rfl fun cdv A outer s H E hr W0 tk => ?_
    exact (mss_cons (ms_if (mt_cmp c_is (mp_slot 1) (MD.p md_non)) (mss_cons (ms_ret (md_cmp c_is (mp_slot 0) (MD.p md_non)))
  mss_nil) mss_nil)
  (mss_cons (ms_if (mt_tru (MD.p (md_isi rfl (hb "isinstance" (by decide)) (mp_cons (mp_slot 1) (mp_cons (MD.p (md_bltn rfl (hb "bool" (by decide)) (by decide +kernel) rfl)) mp_nil))))) (mss_cons (ms_ret (md_and (md_isi rfl (hb "isinstance" (by decide)) (mp_cons (mp_slot 0) (mp_cons (MD.p (md_bltn rfl (hb "bool" (by decide)) (by decide +kernel) rfl)) mp_nil))) (md_one (md_cmp (c_eq hr.units) (mp_slot 0) (mp_slot 1)))))
  mss_nil) mss_nil)
  (mss_cons (ms_if (mt_tru (MD.p (md_isi rfl (hb "isinstance" (by decide)) (mp_cons (mp_slot 1) (mp_cons (MD.p (md_bltn rfl (hb "int" (by decide)) (by decide +kernel) rfl)) mp_nil))))) (mss_cons (ms_ret (md_and (md_isi rfl (hb "isinstance" (by decide)) (mp_cons (mp_slot 0) (mp_cons (MD.p (md_bltn rfl (hb "int" (by decide)) (by decide +kernel) rfl)) mp_nil))) (md_and (md_not (md_isi rfl (hb "isinstance" (by decide)) (mp_cons (mp_slot 0) (mp_cons (MD.p (md_bltn rfl (hb "bool" (by decide)) (by decide +kernel) rfl)) mp_nil)))) (md_one (md_cmp (c_eq hr.units) (mp_slot 0) (mp_slot 1))))))
  mss_nil) mss_nil)
  (mss_cons (ms_if (mt_tru (MD.p (md_isi rfl (hb "isinstance" (by decide)) (mp_cons (mp_slot 1) (mp_cons (MD.p (md_bltn rfl (hb "str" (by decide)) (by decide +kernel) rfl)) mp_nil))))) (mss_cons (ms_ret (md_and (md_isi rfl (hb "isinstance" (by decide)) (mp_cons (mp_slot 0) (mp_cons (MD.p (md_bltn rfl (hb "str" (by decide)) (by decide +kernel) rfl)) mp_nil))) (md_one (md_cmp (c_eq hr.units) (mp_slot 0) (mp_slot 1)))))
  mss_nil) mss_nil)
  (mss_cons (ms_if (mt_tru (MD.p (md_isi rfl (hb "isinstance" (by decide)) (mp_cons (mp_slot 1) (mp_cons (MD.p (md_bltn rfl (hb "dict" (by decide)) (by decide +kernel) rfl)) mp_nil))))) (mss_cons (ms_ret (md_and (md_isi rfl (hb "isinstance" (by decide)) (mp_cons (mp_slot 0) (mp_cons (MD.p (md_bltn rfl (hb "dict" (by decide)) (by decide +kernel) rfl)) mp_nil))) (md_one (md_cmp (c_eq hr.units) (mp_slot 0) (mp_slot 1)))))
  mss_nil) mss_nil)
  (mss_cons (ms_if (MW.t (mw_or (mt_cmp (c_ne hr.units) (MD.p (md_isi rfl (hb "isinstance" (by decide)) (mp_cons (mp_slot 1) (mp_cons (MD.p (md_bltn rfl (hb "tuple" (by decide)) (by decide +kernel) rfl)) mp_nil)))) (MD.p (md_isi rfl (hb "isinstance" (by decide)) (mp_cons (mp_slot 0) (mp_cons (MD.p (md_bltn rfl (hb "tuple" (by decide)) (by decide +kernel) rfl)) mp_nil))))) (mw_or1 (mt_cmp (c_ne hr.units) (MD.p (md_isi rfl (hb "isinstance" (by decide)) (mp_cons (mp_slot 1) (mp_cons (MD.p (md_bltn rfl (hb "list" (by decide)) (by decide +kernel) rfl)) mp_nil)))) (MD.p (md_isi rfl (hb "isinstance" (by decide)) (mp_cons (mp_slot 0) (mp_cons (MD.p (md_bltn rfl (hb "list" (by decide)) (by decide +kernel) rfl)) mp_nil)))))))) (mss_cons (ms_ret md_bl)
  mss_nil) mss_nil)
  (mss_cons (ms_ret (md_and (md_cmp (c_eq hr.units) (MD.p (md_len rfl (hb "len" (by decide)) (mp_cons (mp_slot 0) mp_nil))) (MD.p (md_len rfl (hb "len" (by decide)) (mp_cons (mp_slot 1) mp_nil)))) (md_one (md_all rfl rfl (hb "all" (by decide)) (mp_cons (MD.p (MF.d (mf_lc (own := [("k", 2)]) rfl sc__law_same.nd (mi_range1 rfl (hb "range" (by decide)) (ma_cons (md_len rfl (hb "len" (by decide)) (mp_cons (mp_slot 1) mp_nil)) ma_nil)) (blkOk_by (N := ["found", "due", "k"]) (sc := defScope s__law_same) (own := [("k", 2)]) (by decide +kernel)) (fun _ _ _ _ _ => (mgc_name sc__law_same.nd rfl (by first | exact .inl rfl | exact .inr rfl) (by decide))) (fun _ _ _ _ _ => mts_nil) (fun _ _ _ _ _ => (md_fn0 G__law_same (hr.mono (by omega)) rfl m__law_same k__law_same b__law_same L2.takes0 (ma_cons (md_ix (mp_slot 0) (mp_slot 2)) (ma_cons (md_ix (mp_slot 1) (mp_slot 2)) ma_nil))))))) mp_nil)))))
  mss_nil)))))))
end

/-! ### _law_sum -/
abbrev s__law_sum : Stmt := topS 20
theorem sc__law_sum : FnScope ["octets", "s", "octet"] ["octets"] (defScope s__law_sum) := ⟨rfl, rfl, rfl, by decide +kernel, rfl, by decide +kernel, by decide +kernel⟩
def L__law_sum_0 : M Fl := (mSeq (mSet 1 (m2 oMod (asP (mCall fInt (mCons (asP (m2 oAdd (asP (m2 oAdd (asP (m2 oMul (asP (mC (.int 263))) (pS 1))) (pS 2))) (asP (mC (.int 1))))) mNil))) (asP (mC (.int 34359738337)))))
  mNx)
def B__law_sum : M Fl := (mSeq (mSet 1 (mC (.int 7)))
  (mSeq (mFor (mItems (mV 0)) (tgN 2) L__law_sum_0)
  (mSeq (mRet (mV 1))
  mNx)))
def F__law_sum : Fn := mFun none 2 B__law_sum
section
variable {P : Program} {w : World} {K : PySem.W.Frag} {mg : Str → Option Value} {base : Heap} {T : List (Addr × Str)} {blts : List Str}
theorem ok__law_sum {f : Addr} {fd : FuncData} (Ff : Fun K "_law_sum" "_law_sum" s__law_sum f fd)
    (hb : ∀ x ∈ blts, mg x = none) (hbl : (["int"] : List Str) ⊆ blts) :
    FnOk P w K mg base (L2.CX P w) 1 f fd ["octets"] (spF ⟨K, mg, T⟩ 1 F__law_sum) := by
  have hb : ∀ x ∈ [("int" : Str)], mg x = none := fun x hx => hb x (hbl hx)
  refine fn_ok (j := 0) (n := 1) (k := 2) (io := none) (m := B__law_sum) Ff sc__law_sum rfl rfl fun cdv A outer s H E hr W0 tk => ?_
  exact (mss_cons (ms_set 1 sc__law_sum.nd md_int)
  (mss_cons (ms_for (passes_of rfl) rfl (mi_seq (md_var 0)) (mg_name sc__law_sum.nd rfl (by first | exact .inl rfl | exact .inr rfl) (by decide)) (mss_cons (ms_set 1 sc__law_sum.nd (md_mod (MD.p (md_intc rfl (hb "int" (by decide)) (mp_cons (MD.p (md_add (MD.p (md_add (MD.p (md_mul (MD.p md_int) (mp_slot 1))) (mp_slot 2))) (MD.p md_int))) mp_nil))) (MD.p md_int)))
  mss_nil))
  (mss_cons (ms_ret (md_var 1))
  mss_nil)))
end

/-! ### _law_leaf -/
abbrev s__law_leaf : Stmt := topS 21
theorem sc__law_leaf : FnScope ["octets"] ["octets"] (defScope s__law_leaf) := ⟨rfl, rfl, rfl, by decide +kernel, rfl, by decide +kernel, by decide +kernel⟩
def B__law_leaf : M Fl := (mSeq (mRet (mFn0 F__law_sum (mCons (m2 oAdd (asP (asD (mLst (mCons (mC (.int 0)) mNil)))) (asP (asD (mCall fList (mCons (pS 0) mNil))))) mNil)))
  mNx)
def F__law_leaf : Fn := mFun none 0 B__law_leaf
section
variable {P : Program} {w : World} {K : PySem.W.Frag} {mg : Str → Option Value} {base : Heap} {T : List (Addr × Str)} {blts : List Str}
theorem ok__law_leaf {f : Addr} {fd : FuncData} (Ff : Fun K "_law_leaf" "_law_leaf" s__law_leaf f fd)
    (h__law_sum : Def P w K mg base T "_law_sum" ["octets"] 1 F__law_sum)
    (hb : ∀ x ∈ blts, mg x = none) (hbl : (["list"] : List Str) ⊆ blts) :
    FnOk P w K mg base (L2.CX P w) 2 f fd ["octets"] (spF ⟨K, mg, T⟩ 1 F__law_leaf) := by
  obtain ⟨f__law_sum, fd__law_sum, m__law_sum, k__law_sum, b__law_sum, G__law_sum⟩ := h__law_sum
  have hb : ∀ x ∈ [("list" : Str)], mg x = none := fun x hx => hb x (hbl hx)
  refine fn_ok (j := 1) (n := 1) (k := 0) (io := none) (m := B__law_leaf) Ff sc__law_leaf rfl rfl fun cdv A outer s H E hr W0 tk => ?_
  exact (mss_cons (ms_ret (md_fn0 G__law_sum (hr.mono (by omega)) rfl m__law_sum k__law_sum b__law_sum tk (ma_cons (md_add (MD.p (MF.d (mf_lst (ma_cons md_int ma_nil)))) (MD.p (MF.d (mf_list rfl (hb "list" (by decide)) (mp_cons (mp_slot 0) mp_nil))))) ma_nil)))
  mss_nil)
end

/-! ### _law_joint -/
abbrev s__law_joint : Stmt := topS 22
theorem sc__law_joint : FnScope ["a", "b", "row", "number", "k"] ["a", "b"] (defScope s__law_joint) := ⟨rfl, rfl, rfl, by decide +kernel, rfl, by decide +kernel, by decide +kernel⟩
def L__law_joint_0 : M Fl := (mSeq (mApp 2 (m2 oMod (asP (mCall fInt (mCons (pS 3) mNil))) (asP (mC (.int 256)))))
  (mSeq (mSet 3 (m2 oDiv (pS 3) (asP (mC (.int 256)))))
  mNx))
def L__law_joint_1 : M Fl := (mSeq (mFor (mRange1 (mCons (mC (.int 5)) mNil)) (tgN 4) L__law_joint_0)
  mNx)
def B__law_joint : M Fl := (mSeq (mSetO 2 (mLst (mCons (mC (.int 1)) mNil)))
  (mSeq (mFor (mItems (mTup (mCons (mV 0) (mCons (mV 1) mNil)))) (tgN 3) L__law_joint_1)
  (mSeq (mRet (mFn0 F__law_sum (mCons (mV 2) mNil)))
  mNx)))
def F__law_joint : Fn := mFun none 3 B__law_joint
section
variable {P : Program} {w : World} {K : PySem.W.Frag} {mg : Str → Option Value} {base : Heap} {T : List (Addr × Str)} {blts : List Str}
theorem ok__law_joint {f : Addr} {fd : FuncData} (Ff : Fun K "_law_joint" "_law_joint" s__law_joint f fd)
    (h__law_sum : Def P w K mg base T "_law_sum" ["octets"] 1 F__law_sum)
    (hb : ∀ x ∈ blts, mg x = none) (hbl : (["int", "range"] : List Str) ⊆ blts) :
    FnOk P w K mg base (L2.CX P w) 2 f fd ["a", "b"] (spF ⟨K, mg, T⟩ 2 F__law_joint) := by
  obtain ⟨f__law_sum, fd__law_sum, m__law_sum, k__law_sum, b__law_sum, G__law_sum⟩ := h__law_sum
  have hb : ∀ x ∈ [("int" : Str), ("range" : Str)], mg x = none := fun x hx => hb x (hbl hx)
  refine fn_ok (j := 1) (n := 2) (k := 3) (io := none) (m := B__law_joint) Ff sc__law_joint rfl rfl fun cdv A outer s H E hr W0 tk => ?_
  exact (mss_cons (ms_setO 2 sc__law_joint.nd (mf_lst (ma_cons md_int ma_nil)))
  (mss_cons (ms_for (passes_of rfl) rfl (mi_seq (md_tup (ma_cons (md_var 0) (ma_cons (md_var 1) ma_nil)))) (mg_name sc__law_joint.nd rfl (by first | exact .inl rfl | exact .inr rfl) (by decide)) (mss_cons (ms_for (passes_of rfl) rfl (mi_range1 rfl (hb "range" (by decide)) (ma_cons md_int ma_nil)) (mg_name sc__law_joint.nd rfl (by first | exact .inl rfl | exact .inr rfl) (by decide)) (mss_cons (ms_app 2 (md_mod (MD.p (md_intc rfl (hb "int" (by decide)) (mp_cons (mp_slot 3) mp_nil))) (MD.p md_int)))
  (mss_cons (ms_set 3 sc__law_joint.nd (md_fdiv (mp_slot 3) (MD.p md_int)))
  mss_nil)))
  mss_nil))
  (mss_cons (ms_ret (md_fn0 G__law_sum (hr.mono (by omega)) rfl m__law_sum k__law_sum b__law_sum tk (ma_cons (md_var 2) ma_nil)))
  mss_nil)))
end

/-! ### _law_cut -/
abbrev s__law_cut : Stmt := topS 23
theorem sc__law_cut : FnScope ["count", "p"] ["count"] (defScope s__law_cut) := ⟨rfl, rfl, rfl, by decide +kernel, rfl, by decide +kernel, by decide +kernel⟩
def L__law_cut_0 : M Fl := (mSeq (mSet 1 (m2 oMul (asP (mC (.int 2))) (pS 1)))
  mNx)
def B__law_cut : M Fl := (mSeq (mSet 1 (mC (.int 1)))
  (mSeq (whileGo (mB (m2 oLt (asP (m2 oMul (asP (mC (.int 2))) (pS 1))) (pS 0))) L__law_cut_0 40)
  (mSeq (mRet (mV 1))
  mNx)))
def F__law_cut : Fn := mFun none 1 B__law_cut
section
variable {P : Program} {w : World} {K : PySem.W.Frag} {mg : Str → Option Value} {base : Heap} {T : List (Addr × Str)} {blts : List Str}
theorem ok__law_cut {f : Addr} {fd : FuncData} (Ff : Fun K "_law_cut" "_law_cut" s__law_cut f fd) :
    FnOk P w K mg base (L2.CX P w) 1 f fd ["count"] (spF ⟨K, mg, T⟩ 1 F__law_cut) := by
  refine fn_ok (j := 0) (n := 1) (k := 1) (io := none) (m := B__law_cut) Ff sc__law_cut rfl rfl fun cdv A outer s H E hr W0 tk => ?_
  exact (mss_cons (ms_set 1 sc__law_cut.nd md_int)
  (mss_cons (ms_while 40 (passes_of rfl) (mt_cmp c_lt (MD.p (md_mul (MD.p md_int) (mp_slot 1))) (mp_slot 0)) (mss_cons (ms_set 1 sc__law_cut.nd (md_mul (MD.p md_int) (mp_slot 1)))
  mss_nil))
  (mss_cons (ms_ret (md_var 1))
  mss_nil)))
end

/-! ### _law_root -/
abbrev s__law_root : Stmt := topS 24
theorem sc__law_root : FnScope ["sums", "p"] ["sums"] (defScope s__law_root) := ⟨rfl, rfl, rfl, by decide +kernel, rfl, by decide +kernel, by decide +kernel⟩
def B__law_root (Fr : Fn) : M Fl := (mSeq (mIf (mB (m2 oEq (asP (mCall fLen (mCons (pS 0) mNil))) (asP (mC (.int 1))))) (mSeq (mRet (m2 oIx (pS 0) (asP (mC (.int 0)))))
  mNx) mNx)
  (mSeq (mSet 1 (mFn0 F__law_cut (mCons (mCall fLen (mCons (pS 0) mNil)) mNil)))
  (mSeq (mRet (mFn0 F__law_joint (mCons (mFn0 Fr (mCons (mSl oSl (pS 0) mNo (mSome (mV 1))) mNil)) (mCons (mFn0 Fr (mCons (mSl oSl (pS 0) (mSome (mV 1)) mNo) mNil)) mNil))))
  mNx)))
def F__law_root : Nat → Fn
  | 0 => fun _ => .bad
  | n + 1 => mFun none 1 (B__law_root (F__law_root n))
section
variable {P : Program} {w : World} {K : PySem.W.Frag} {mg : Str → Option Value} {base : Heap} {T : List (Addr × Str)} {blts : List Str}
theorem ok__law_root {f : Addr} {fd : FuncData} (Ff : Fun K "_law_root" "_law_root" s__law_root f fd)
    (mf : mg "_law_root" = some (.ref f)) (bf : L2.Binds K fd ["sums"] [])
    (h__law_joint : Def P w K mg base T "_law_joint" ["a", "b"] 2 F__law_joint)
    (h__law_cut : Def P w K mg base T "_law_cut" ["count"] 1 F__law_cut)
    (hb : ∀ x ∈ blts, mg x = none) (hbl : (["len"] : List Str) ⊆ blts) (n : Nat) :
    FnOk P w K mg base (L2.CX P w) (2 + n) f fd ["sums"] (spF ⟨K, mg, T⟩ 1 (F__law_root n)) := by
  obtain ⟨f__law_joint, fd__law_joint, m__law_joint, k__law_joint, b__law_joint, G__law_joint⟩ := h__law_joint
  obtain ⟨f__law_cut, fd__law_cut, m__law_cut, k__law_cut, b__law_cut, G__law_cut⟩ := h__law_cut
  have hb : ∀ x ∈ [("len" : Str)], mg x = none := fun x hx => hb x (hbl hx)
  induction n with
  | zero => exact fnok_bad rfl
  | succ n ih =>
    have G__law_root := ih; have m__law_root := mf; have k__law_root := Ff.kp; have b__law_root := bf
    refine fn_ok (j := 2 + n) (n := 1) (k := 1) (io := none) (m := B__law_root (F__law_root n)) Ff sc__law_root rfl rfl fun cdv A outer s H E hr W0 tk => ?_
    exact (mss_cons (ms_if (mt_cmp (c_eq hr.units) (MD.p (md_len rfl (hb "len" (by decide)) (mp_cons (mp_slot 0) mp_nil))) (MD.p md_int)) (mss_cons (ms_ret (md_ix (mp_slot 0) (MD.p md_int)))
  mss_nil) mss_nil)
  (mss_cons (ms_set 1 sc__law_root.nd (md_fn0 G__law_cut (hr.mono (by omega)) rfl m__law_cut k__law_cut b__law_cut tk (ma_cons (md_len rfl (hb "len" (by decide)) (mp_cons (mp_slot 0) mp_nil)) ma_nil)))
  (mss_cons (ms_ret (md_fn0 G__law_joint (hr.mono (by omega)) rfl m__law_joint k__law_joint b__law_joint tk (ma_cons (md_fn0 G__law_root (hr.mono (by omega)) rfl m__law_root k__law_root b__law_root tk (ma_cons (md_slice (mp_slot 0) mn_no (mn_some (md_var 1))) ma_nil)) (ma_cons (md_fn0 G__law_root (hr.mono (by omega)) rfl m__law_root k__law_root b__law_root tk (ma_cons (md_slice (mp_slot 0) (mn_some (md_var 1)) mn_no) ma_nil)) ma_nil))))
  mss_nil)))
end

/-! ### _law_proof -/
abbrev s__law_proof : Stmt := topS 25
theorem sc__law_proof : FnScope ["sums", "index", "p"] ["sums", "index"] (defScope s__law_proof) := ⟨rfl, rfl, rfl, by decide +kernel, rfl, by decide +kernel, by decide +kernel⟩
def B__law_proof (Fr : Fn) : M Fl := (mSeq (mIf (mB (m2 oEq (asP (mCall fLen (mCons (pS 0) mNil))) (asP (mC (.int 1))))) (mSeq (mRet (asD (mLst mNil)))
  mNx) mNx)
  (mSeq (mSet 2 (mFn0 F__law_cut (mCons (mCall fLen (mCons (pS 0) mNil)) mNil)))
  (mSeq (mIf (mB (m2 oLt (pS 1) (pS 2))) (mSeq (mRet (m2 oAdd (asP (mFn0 Fr (mCons (mSl oSl (pS 0) mNo (mSome (mV 2))) (mCons (mV 1) mNil)))) (asP (asD (mLst (mCons (mFn0 (F__law_root 12) (mCons (mSl oSl (pS 0) (mSome (mV 2)) mNo) mNil)) mNil))))))
  mNx) mNx)
  (mSeq (mRet (m2 oAdd (asP (mFn0 Fr (mCons (mSl oSl (pS 0) (mSome (mV 2)) mNo) (mCons (m2 oSub (pS 1) (pS 2)) mNil)))) (asP (asD (mLst (mCons (mFn0 (F__law_root 12) (mCons (mSl oSl (pS 0) mNo (mSome (mV 2))) mNil)) mNil))))))
  mNx))))
def F__law_proof : Nat → Fn
  | 0 => fun _ => .bad
  | n + 1 => mFun none 1 (B__law_proof (F__law_proof n))
section
variable {P : Program} {w : World} {K : PySem.W.Frag} {mg : Str → Option Value} {base : Heap} {T : List (Addr × Str)} {blts : List Str}
theorem ok__law_proof {f : Addr} {fd : FuncData} (Ff : Fun K "_law_proof" "_law_proof" s__law_proof f fd)
    (mf : mg "_law_proof" = some (.ref f)) (bf : L2.Binds K fd ["sums", "index"] [])
    (h__law_root : Def P w K mg base T "_law_root" ["sums"] 14 (F__law_root 12))
    (h__law_cut : Def P w K mg base T "_law_cut" ["count"] 1 F__law_cut)
    (hb : ∀ x ∈ blts, mg x = none) (hbl : (["len"] : List Str) ⊆ blts) (n : Nat) :
    FnOk P w K mg base (L2.CX P w) (14 + n) f fd ["sums", "index"] (spF ⟨K, mg, T⟩ 2 (F__law_proof n)) := by
  obtain ⟨f__law_root, fd__law_root, m__law_root, k__law_root, b__law_root, G__law_root⟩ := h__law_root
  obtain ⟨f__law_cut, fd__law_cut, m__law_cut, k__law_cut, b__law_cut, G__law_cut⟩ := h__law_cut
  have hb : ∀ x ∈ [("len" : Str)], mg x = none := fun x hx => hb x (hbl hx)
  induction n with
  | zero => exact fnok_bad rfl
  | succ n ih =>
    have G__law_proof := ih; have m__law_proof := mf; have k__law_proof := Ff.kp; have b__law_proof := bf
    refine fn_ok (j := 14 + n) (n := 2) (k := 1) (io := none) (m := B__law_proof (F__law_proof n)) Ff sc__law_proof rfl rfl fun cdv A outer s H E hr W0 tk => ?_
    exact (mss_cons (ms_if (mt_cmp (c_eq hr.units) (MD.p (md_len rfl (hb "len" (by decide)) (mp_cons (mp_slot 0) mp_nil))) (MD.p md_int)) (mss_cons (ms_ret (MF.d (mf_lst ma_nil)))
  mss_nil) mss_nil)
  (mss_cons (ms_set 2 sc__law_proof.nd (md_fn0 G__law_cut (hr.mono (by omega)) rfl m__law_cut k__law_cut b__law_cut tk (ma_cons (md_len rfl (hb "len" (by decide)) (mp_cons (mp_slot 0) mp_nil)) ma_nil)))
  (mss_cons (ms_if (mt_cmp c_lt (mp_slot 1) (mp_slot 2)) (mss_cons (ms_ret (md_add (MD.p (md_fn0 G__law_proof (hr.mono (by omega)) rfl m__law_proof k__law_proof b__law_proof tk (ma_cons (md_slice (mp_slot 0) mn_no (mn_some (md_var 2))) (ma_cons (md_var 1) ma_nil)))) (MD.p (MF.d (mf_lst (ma_cons (md_fn0 G__law_root (hr.mono (by omega)) rfl m__law_root k__law_root b__law_root tk (ma_cons (md_slice (mp_slot 0) (mn_some (md_var 2)) mn_no) ma_nil)) ma_nil))))))
  mss_nil) mss_nil)
  (mss_cons (ms_ret (md_add (MD.p (md_fn0 G__law_proof (hr.mono (by omega)) rfl m__law_proof k__law_proof b__law_proof tk (ma_cons (md_slice (mp_slot 0) (mn_some (md_var 2)) mn_no) (ma_cons (md_sub (mp_slot 1) (mp_slot 2)) ma_nil)))) (MD.p (MF.d (mf_lst (ma_cons (md_fn0 G__law_root (hr.mono (by omega)) rfl m__law_root k__law_root b__law_root tk (ma_cons (md_slice (mp_slot 0) mn_no (mn_some (md_var 2))) ma_nil)) ma_nil))))))
  mss_nil))))
end

/-! ### _law_climb -/
abbrev s__law_climb : Stmt := topS 26
theorem sc__law_climb : FnScope ["count", "index", "mine", "proof", "p", "told"] ["count", "index", "mine", "proof"] (defScope s__law_climb) := ⟨rfl, rfl, rfl, by decide +kernel, rfl, by decide +kernel, by decide +kernel⟩
def B__law_climb (Fr : Fn) : M Fl := (mSeq (mIf (mB (m2 oEq (pS 0) (asP (mC (.int 1))))) (mSeq (mRet (mTup (mCons (mV 2) (mCons (mV 3) mNil))))
  mNx) mNx)
  (mSeq (mSet 4 (mFn0 F__law_cut (mCons (mV 0) mNil)))
  (mSeq (mSet 5 (mIf (mB (m2 oLt (pS 1) (pS 4))) (mFn0 Fr (mCons (mV 4) (mCons (mV 1) (mCons (mV 2) (mCons (mV 3) mNil))))) (mFn0 Fr (mCons (m2 oSub (pS 0) (pS 4)) (mCons (m2 oSub (pS 1) (pS 4)) (mCons (mV 2) (mCons (mV 3) mNil)))))))
  (mSeq (mIf (mOr (mB (m2 oIs (pS 5) (asP (mC .non)))) (mB (m2 oEq (asP (mCall fLen (mCons (asP (m2 oIx (pS 5) (asP (mC (.int 1))))) mNil))) (asP (mC (.int 0)))))) (mSeq (mRet (mC .non))
  mNx) mNx)
  (mSeq (mRet (mTup (mCons (mIf (mB (m2 oLt (pS 1) (pS 4))) (mFn0 F__law_joint (mCons (m2 oIx (pS 5) (asP (mC (.int 0)))) (mCons (m2 oIx (asP (m2 oIx (pS 5) (asP (mC (.int 1))))) (asP (mC (.int 0)))) mNil))) (mFn0 F__law_joint (mCons (m2 oIx (asP (m2 oIx (pS 5) (asP (mC (.int 1))))) (asP (mC (.int 0)))) (mCons (m2 oIx (pS 5) (asP (mC (.int 0)))) mNil)))) (mCons (mSl oSl (asP (m2 oIx (pS 5) (asP (mC (.int 1))))) (mSome (mC (.int 1))) mNo) mNil))))
  mNx)))))
def F__law_climb : Nat → Fn
  | 0 => fun _ => .bad
  | n + 1 => mFun none 2 (B__law_climb (F__law_climb n))
section
variable {P : Program} {w : World} {K : PySem.W.Frag} {mg : Str → Option Value} {base : Heap} {T : List (Addr × Str)} {blts : List Str}
theorem ok__law_climb {f : Addr} {fd : FuncData} (Ff : Fun K "_law_climb" "_law_climb" s__law_climb f fd)
    (mf : mg "_law_climb" = some (.ref f)) (bf : L2.Binds K fd ["count", "index", "mine", "proof"] [])
    (h__law_joint : Def P w K mg base T "_law_joint" ["a", "b"] 2 F__law_joint)
    (h__law_cut : Def P w K mg base T "_law_cut" ["count"] 1 F__law_cut)
    (hb : ∀ x ∈ blts, mg x = none) (hbl : (["len"] : List Str) ⊆ blts) (n : Nat) :
    FnOk P w K mg base (L2.CX P w) (2 + n) f fd ["count", "index", "mine", "proof"] (spF ⟨K, mg, T⟩ 4 (F__law_climb n)) := by
  obtain ⟨f__law_joint, fd__law_joint, m__law_joint, k__law_joint, b__law_joint, G__law_joint⟩ := h__law_joint
  obtain ⟨f__law_cut, fd__law_cut, m__law_cut, k__law_cut, b__law_cut, G__law_cut⟩ := h__law_cut
  have hb : ∀ x ∈ [("len" : Str)], mg x = none := fun x hx => hb x (hbl hx)
  induction n with
  | zero => exact fnok_bad rfl
  | succ n ih =>
    have G__law_climb := ih; have m__law_climb := mf; have k__law_climb := Ff.kp; have b__law_climb := bf
    refine fn_ok (j := 2 + n) (n := 4) (k := 2) (io := none) (m := B__law_climb (F__law_climb n)) Ff sc__law_climb rfl rfl fun cdv A outer s H E hr W0 tk => ?_
    exact (mss_cons (ms_if (mt_cmp (c_eq hr.units) (mp_slot 0) (MD.p md_int)) (mss_cons (ms_ret (md_tup (ma_cons (md_var 2) (ma_cons (md_var 3) ma_nil))))
  mss_nil) mss_nil)
  (mss_cons (ms_set 4 sc__law_climb.nd (md_fn0 G__law_cut (hr.mono (by omega)) rfl m__law_cut k__law_cut b__law_cut tk (ma_cons (md_var 0) ma_nil)))
  (mss_cons (ms_set 5 sc__law_climb.nd (md_if (mt_cmp c_lt (mp_slot 1) (mp_slot 4)) (md_fn0 G__law_climb (hr.mono (by omega)) rfl m__law_climb k__law_climb b__law_climb tk (ma_cons (md_var 4) (ma_cons (md_var 1) (ma_cons (md_var 2) (ma_cons (md_var 3) ma_nil))))) (md_fn0 G__law_climb (hr.mono (by omega)) rfl m__law_climb k__law_climb b__law_climb tk (ma_cons (md_sub (mp_slot 0) (mp_slot 4)) (ma_cons (md_sub (mp_slot 1) (mp_slot 4)) (ma_cons (md_var 2) (ma_cons (md_var 3) ma_nil)))))))
  (mss_cons (ms_if (MW.t (mw_or (mt_cmp c_is (mp_slot 5) (MD.p md_non)) (mw_or1 (mt_cmp (c_eq hr.units) (MD.p (md_len rfl (hb "len" (by decide)) (mp_cons (MD.p (md_ix (mp_slot 5) (MD.p md_int))) mp_nil))) (MD.p md_int))))) (mss_cons (ms_ret md_non)
  mss_nil) mss_nil)
  (mss_cons (ms_ret (md_tup (ma_cons (md_if (mt_cmp c_lt (mp_slot 1) (mp_slot 4)) (md_fn0 G__law_joint (hr.mono (by omega)) rfl m__law_joint k__law_joint b__law_joint tk (ma_cons (md_ix (mp_slot 5) (MD.p md_int)) (ma_cons (md_ix (MD.p (md_ix (mp_slot 5) (MD.p md_int))) (MD.p md_int)) ma_nil))) (md_fn0 G__law_joint (hr.mono (by omega)) rfl m__law_joint k__law_joint b__law_joint tk (ma_cons (md_ix (MD.p (md_ix (mp_slot 5) (MD.p md_int))) (MD.p md_int)) (ma_cons (md_ix (mp_slot 5) (MD.p md_int)) ma_nil)))) (ma_cons (md_slice (MD.p (md_ix (mp_slot 5) (MD.p md_int))) (mn_some md_int) mn_no) ma_nil))))
  mss_nil)))))
end

/-! ### _law_takes -/
abbrev s__law_takes : Stmt := topS 27
theorem sc__law_takes : FnScope ["root", "count", "index", "octets", "proof", "told"] ["root", "count", "index", "octets", "proof"] (defScope s__law_takes) := ⟨rfl, rfl, rfl, by decide +kernel, rfl, by decide +kernel, by decide +kernel⟩
def B__law_takes : M Fl := (mSeq (mIf (mNot (mB (mChain oLe oLt (asP (mC (.int 0))) (pS 2) (pS 1)))) (mSeq (mRet (mC (.bl false)))
  mNx) mNx)
  (mSeq (mSet 5 (mFn0 (F__law_climb 12) (mCons (mV 1) (mCons (mV 2) (mCons (mFn0 F__law_leaf (mCons (mV 3) mNil)) (mCons (asD (mCall fList (mCons (pS 4) mNil))) mNil))))))
  (mSeq (mRet (mAndV (m2 oIsN (pS 5) (asP (mC .non))) (mAndV (m2 oEq (asP (m2 oIx (pS 5) (asP (mC (.int 0))))) (pS 0)) (m2 oEq (asP (mCall fLen (mCons (asP (m2 oIx (pS 5) (asP (mC (.int 1))))) mNil))) (asP (mC (.int 0)))))))
  mNx)))
def F__law_takes : Fn := mFun none 1 B__law_takes
section
variable {P : Program} {w : World} {K : PySem.W.Frag} {mg : Str → Option Value} {base : Heap} {T : List (Addr × Str)} {blts : List Str}
theorem ok__law_takes {f : Addr} {fd : FuncData} (Ff : Fun K "_law_takes" "_law_takes" s__law_takes f fd)
    (h__law_climb : Def P w K mg base T "_law_climb" ["count", "index", "mine", "proof"] 14 (F__law_climb 12))
    (h__law_leaf : Def P w K mg base T "_law_leaf" ["octets"] 2 F__law_leaf)
    (hb : ∀ x ∈ blts, mg x = none) (hbl : (["len", "list"] : List Str) ⊆ blts) :
    FnOk P w K mg base (L2.CX P w) 15 f fd ["root", "count", "index", "octets", "proof"] (spF ⟨K, mg, T⟩ 5 F__law_takes) := by
  obtain ⟨f__law_climb, fd__law_climb, m__law_climb, k__law_climb, b__law_climb, G__law_climb⟩ := h__law_climb
  obtain ⟨f__law_leaf, fd__law_leaf, m__law_leaf, k__law_leaf, b__law_leaf, G__law_leaf⟩ := h__law_leaf
  have hb : ∀ x ∈ [("len" : Str), ("list" : Str)], mg x = none := fun x hx => hb x (hbl hx)
  refine fn_ok (j := 14) (n := 5) (k := 1) (io := none) (m := B__law_takes) Ff sc__law_takes rfl rfl fun cdv A outer s H E hr W0 tk => ?_
  exact (mss_cons (ms_if (mt_not (mt_chain c_le c_lt (MD.p md_int) (mp_slot 2) (mp_slot 1))) (mss_cons (ms_ret md_bl)
  mss_nil) mss_nil)
  (mss_cons (ms_set 5 sc__law_takes.nd (md_fn0 G__law_climb (hr.mono (by omega)) rfl m__law_climb k__law_climb b__law_climb tk (ma_cons (md_var 1) (ma_cons (md_var 2) (ma_cons (md_fn0 G__law_leaf (hr.mono (by omega)) rfl m__law_leaf k__law_leaf b__law_leaf tk (ma_cons (md_var 3) ma_nil)) (ma_cons (MF.d (mf_list rfl (hb "list" (by decide)) (mp_cons (mp_slot 4) mp_nil))) ma_nil))))))
  (mss_cons (ms_ret (md_and (md_cmp c_isn (mp_slot 5) (MD.p md_non)) (md_and (md_cmp (c_eq hr.units) (MD.p (md_ix (mp_slot 5) (MD.p md_int))) (mp_slot 0)) (md_one (md_cmp (c_eq hr.units) (MD.p (md_len rfl (hb "len" (by decide)) (mp_cons (MD.p (md_ix (mp_slot 5) (MD.p md_int))) mp_nil))) (MD.p md_int))))))
  mss_nil)))
end

/-! ### _law_bent -/
abbrev s__law_bent : Stmt := topS 28
theorem sc__law_bent : FnScope ["draws", "proof", "row", "kind", "at"] ["draws", "proof"] (defScope s__law_bent) := ⟨rfl, rfl, rfl, by decide +kernel, rfl, by decide +kernel, by decide +kernel⟩
def B__law_bent : M Fl := (mSeq (mSet 2 (asD (mCall fList (mCons (pS 1) mNil))))
  (mSeq (mSet 3 (mFn1 F__law_take 0 (m1Here 0 (mCons (mC (.int 5)) mNil))))
  (mSeq (mIf (mOr (mB (m2 oEq (asP (mCall fLen (mCons (pS 2) mNil))) (asP (mC (.int 0))))) (mB (m2 oEq (pS 3) (asP (mC (.int 0)))))) (mSeq (mRet (m2 oAdd (pS 2) (asP (asD (mLst (mCons (mFn1 F__law_take 0 (m1Here 0 (mCons (mC (.int 1000)) mNil))) mNil))))))
  mNx) mNx)
  (mSeq (mSet 4 (mFn1 F__law_take 0 (m1Here 0 (mCons (mCall fLen (mCons (pS 2) mNil)) mNil))))
  (mSeq (mIf (mB (m2 oEq (pS 3) (asP (mC (.int 1))))) (mSeq (mRet (m2 oAdd (asP (mSl oSl (pS 2) mNo (mSome (mV 4)))) (asP (mSl oSl (pS 2) (mSome (m2 oAdd (pS 4) (asP (mC (.int 1))))) mNo))))
  mNx) mNx)
  (mSeq (mIf (mB (m2 oEq (pS 3) (asP (mC (.int 2))))) (mSeq (mRet (m2 oAdd (asP (m2 oAdd (asP (mSl oSl (pS 2) mNo (mSome (mV 4)))) (asP (asD (mLst (mCons (m2 oAdd (asP (m2 oIx (pS 2) (pS 4))) (asP (mC (.int 1)))) mNil)))))) (asP (mSl oSl (pS 2) (mSome (m2 oAdd (pS 4) (asP (mC (.int 1))))) mNo))))
  mNx) mNx)
  (mSeq (mRet (mIf (mB (m2 oEq (pS 3) (asP (mC (.int 3))))) (asD (mRev (pS 2))) (m2 oAdd (asP (m2 oAdd (asP (mSl oSl (pS 2) mNo (mSome (mV 4)))) (asP (asD (mLst (mCons (m2 oIx (pS 2) (pS 4)) mNil)))))) (asP (mSl oSl (pS 2) (mSome (mV 4)) mNo)))))
  mNx)))))))
def F__law_bent : Fn := mFun (some 0) 3 B__law_bent
section
variable {P : Program} {w : World} {K : PySem.W.Frag} {mg : Str → Option Value} {base : Heap} {T : List (Addr × Str)} {blts : List Str}
theorem ok__law_bent {f : Addr} {fd : FuncData} (Ff : Fun K "_law_bent" "_law_bent" s__law_bent f fd)
    (h__law_take : Def P w K mg base T "_law_take" ["draws", "limit"] 1 F__law_take)
    (hb : ∀ x ∈ blts, mg x = none) (hbl : (["len", "list"] : List Str) ⊆ blts) :
    FnOk P w K mg base (L2.CX P w) 2 f fd ["draws", "proof"] (spF ⟨K, mg, T⟩ 2 F__law_bent) := by
  obtain ⟨f__law_take, fd__law_take, m__law_take, k__law_take, b__law_take, G__law_take⟩ := h__law_take
  have hb : ∀ x ∈ [("len" : Str), ("list" : Str)], mg x = none := fun x hx => hb x (hbl hx)
  refine fn_ok (j := 1) (n := 2) (k := 3) (io := (some 0)) (m := B__law_bent) Ff sc__law_bent rfl rfl fun cdv A outer s H E hr W0 tk => ?_
  exact (mss_cons (ms_set 2 sc__law_bent.nd (MF.d (mf_list rfl (hb "list" (by decide)) (mp_cons (mp_slot 1) mp_nil))))
  (mss_cons (ms_set 3 sc__law_bent.nd (md_fn1 G__law_take (hr.mono (by omega)) rfl m__law_take k__law_take b__law_take tk (m1_here 0 (ma_cons md_int ma_nil))))
  (mss_cons (ms_if (MW.t (mw_or (mt_cmp (c_eq hr.units) (MD.p (md_len rfl (hb "len" (by decide)) (mp_cons (mp_slot 2) mp_nil))) (MD.p md_int)) (mw_or1 (mt_cmp (c_eq hr.units) (mp_slot 3) (MD.p md_int))))) (mss_cons (ms_ret (md_add (mp_slot 2) (MD.p (MF.d (mf_lst (ma_cons (md_fn1 G__law_take (hr.mono (by omega)) rfl m__law_take k__law_take b__law_take tk (m1_here 0 (ma_cons md_int ma_nil))) ma_nil))))))
  mss_nil) mss_nil)
  (mss_cons (ms_set 4 sc__law_bent.nd (md_fn1 G__law_take (hr.mono (by omega)) rfl m__law_take k__law_take b__law_take tk (m1_here 0 (ma_cons (md_len rfl (hb "len" (by decide)) (mp_cons (mp_slot 2) mp_nil)) ma_nil))))
  (mss_cons (ms_if (mt_cmp (c_eq hr.units) (mp_slot 3) (MD.p md_int)) (mss_cons (ms_ret (md_add (MD.p (md_slice (mp_slot 2) mn_no (mn_some (md_var 4)))) (MD.p (md_slice (mp_slot 2) (mn_some (md_add (mp_slot 4) (MD.p md_int))) mn_no))))
  mss_nil) mss_nil)
  (mss_cons (ms_if (mt_cmp (c_eq hr.units) (mp_slot 3) (MD.p md_int)) (mss_cons (ms_ret (md_add (MD.p (md_add (MD.p (md_slice (mp_slot 2) mn_no (mn_some (md_var 4)))) (MD.p (MF.d (mf_lst (ma_cons (md_add (MD.p (md_ix (mp_slot 2) (mp_slot 4))) (MD.p md_int)) ma_nil)))))) (MD.p (md_slice (mp_slot 2) (mn_some (md_add (mp_slot 4) (MD.p md_int))) mn_no))))
  mss_nil) mss_nil)
  (mss_cons (ms_ret (md_if (mt_cmp (c_eq hr.units) (mp_slot 3) (MD.p md_int)) (MF.d (mf_rev (mp_slot 2))) (md_add (MD.p (md_add (MD.p (md_slice (mp_slot 2) mn_no (mn_some (md_var 4)))) (MD.p (MF.d (mf_lst (ma_cons (md_ix (mp_slot 2) (mp_slot 4)) ma_nil)))))) (MD.p (md_slice (mp_slot 2) (mn_some (md_var 4)) mn_no)))))
  mss_nil)))))))
end

/-! ### law -/
abbrev s_law : Stmt := topS 30
theorem sc_law : FnScope ["script", "draws", "many", "items", "sums", "root", "other", "turn", "index", "proof", "k", "bent", "count", "place", "octets", "row", "call", "j", "item"] ["script"] (defScope s_law) := ⟨rfl, rfl, rfl, by decide +kernel, rfl, by decide +kernel, by decide +kernel⟩
def L_law_0 : M Fl := (mSeq (mIf (mNot (mTru (asP (mFn0 (F__law_same 4) (mCons (mFn0 F_takes_item (mCons (m2 oIx (pS 15) (asP (mC (.int 0)))) (mCons (m2 oIx (pS 15) (asP (mC (.int 1)))) (mCons (m2 oIx (pS 15) (asP (mC (.int 2)))) (mCons (m2 oIx (pS 15) (asP (mC (.int 3)))) (mCons (m2 oIx (pS 15) (asP (mC (.int 4)))) mNil)))))) (mCons (mFn0 F__law_takes (mCons (m2 oIx (pS 15) (asP (mC (.int 0)))) (mCons (m2 oIx (pS 15) (asP (mC (.int 1)))) (mCons (m2 oIx (pS 15) (asP (mC (.int 2)))) (mCons (m2 oIx (pS 15) (asP (mC (.int 3)))) (mCons (m2 oIx (pS 15) (asP (mC (.int 4)))) mNil)))))) mNil)))))) (mSeq (mRet (mC (.bl false)))
  mNx) mNx)
  mNx)
def L_law_1 : M Fl := (mSeq (mAsg (mTup (mCons (mFn1 F__law_bent 1 (m1Here 1 (mCons (mV 9) mNil))) (mCons (m2 oSub (asP (m2 oAdd (pS 2) (asP (mFn1 F__law_take 1 (m1Here 1 (mCons (mC (.int 3)) mNil)))))) (asP (mC (.int 1)))) (mCons (m2 oSub (asP (mFn1 F__law_take 1 (m1Here 1 (mCons (m2 oAdd (pS 2) (asP (mC (.int 2)))) mNil)))) (asP (mC (.int 1)))) (mCons (m2 oIx (pS 3) (asP (mFn1 F__law_take 1 (m1Here 1 (mCons (mV 2) mNil))))) mNil))))) (tgT (tgsC (tgN 11) (tgsC (tgN 12) (tgsC (tgN 13) (tgsC (tgN 14) tgs0))))))
  (mSeq (mFor (mItems (mTup (mCons (mTup (mCons (mV 5) (mCons (mV 2) (mCons (mV 8) (mCons (m2 oIx (pS 3) (pS 8)) (mCons (mV 11) mNil)))))) (mCons (mTup (mCons (mV 5) (mCons (mV 12) (mCons (mV 8) (mCons (m2 oIx (pS 3) (pS 8)) (mCons (mV 9) mNil)))))) (mCons (mTup (mCons (mV 5) (mCons (mV 2) (mCons (mV 13) (mCons (m2 oIx (pS 3) (pS 8)) (mCons (mV 9) mNil)))))) (mCons (mTup (mCons (mV 5) (mCons (mV 2) (mCons (mV 8) (mCons (mV 14) (mCons (mV 9) mNil)))))) (mCons (mTup (mCons (m2 oAdd (pS 5) (asP (mC (.int 1)))) (mCons (mV 2) (mCons (mV 8) (mCons (m2 oIx (pS 3) (pS 8)) (mCons (mV 9) mNil)))))) mNil))))))) (tgN 15) L_law_0)
  mNx))
def L_law_2 : M Fl := (mSeq (mSet 8 (mFn1 F__law_take 1 (m1Here 1 (mCons (mV 2) mNil))))
  (mSeq (mSet 9 (mFn0 (F_item_proof 12) (mCons (mV 3) (mCons (mV 8) mNil))))
  (mSeq (mIf (mOr (mNot (mTru (asP (mFn0 (F__law_same 4) (mCons (mV 9) (mCons (mFn0 (F__law_proof 12) (mCons (mV 4) (mCons (mV 8) mNil))) mNil)))))) (mB (m2 oIsN (asP (mFn0 F_takes_item (mCons (mV 5) (mCons (mV 2) (mCons (mV 8) (mCons (m2 oIx (pS 3) (pS 8)) (mCons (mV 9) mNil))))))) (asP (mC (.bl true)))))) (mSeq (mRet (mC (.bl false)))
  mNx) mNx)
  (mSeq (mFor (mRange1 (mCons (mC (.int 3)) mNil)) (tgN 10) L_law_1)
  mNx))))
def L_law_3 : M D := (mFn0 F__law_leaf (mCons (mV 18) mNil))
def L_law_4 : M D := (mFn1 F__law_take 1 (m1Here 1 (mCons (mC (.int 256)) mNil)))
def L_law_5 : M D := (asD (mLc [10] (mRange1 (mCons (mFn1 F__law_take 1 (m1Here 1 (mCons (mC (.int 4)) mNil))) mNil)) (tgN 10) mYes L_law_4))
def B_law : M Fl := (mSeq (mSetO 1 (mFnO F__law_draws (mCons (mV 0) (mCons (mC (.int 400)) mNil))))
  (mSeq (mSet 2 (m2 oAdd (asP (mC (.int 1))) (asP (mFn1 F__law_take 1 (m1Here 1 (mCons (mIf (mB (m2 oEq (asP (mFn1 F__law_take 1 (m1Here 1 (mCons (mC (.int 6)) mNil)))) (asP (mC (.int 0))))) (mC (.int 90)) (mC (.int 20))) mNil))))))
  (mSeq (mSet 3 (asD (mLc [17] (mRange1 (mCons (mV 2) mNil)) (tgN 17) mYes L_law_5)))
  (mSeq (mSet 4 (asD (mLc [18] (mItems (mV 3)) (tgN 18) mYes L_law_3)))
  (mSeq (mSet 5 (mFn0 (F__law_root 12) (mCons (mV 4) mNil)))
  (mSeq (mIf (mOr (mNot (mTru (asP (mFn0 (F__law_same 4) (mCons (mFn0 (F_root_of 12) (mCons (mV 3) mNil)) (mCons (mV 5) mNil)))))) (mOr (mNot (mTru (asP (mFn0 (F__law_same 4) (mCons (mFn0 F_sum_of (mCons (m2 oIx (pS 3) (asP (mC (.int 0)))) mNil)) (mCons (mFn0 F__law_sum (mCons (m2 oIx (pS 3) (asP (mC (.int 0)))) mNil)) mNil)))))) (mNot (mTru (asP (mFn0 (F__law_same 4) (mCons (mFn0 F_leaf_sum (mCons (m2 oIx (pS 3) (asP (mC (.int 0)))) mNil)) (mCons (m2 oIx (pS 4) (asP (mC (.int 0)))) mNil)))))))) (mSeq (mRet (mC (.bl false)))
  mNx) mNx)
  (mSeq (mSet 6 (m2 oIx (pS 4) (asP (mFn1 F__law_take 1 (m1Here 1 (mCons (mV 2) mNil))))))
  (mSeq (mIf (mNot (mTru (asP (mFn0 (F__law_same 4) (mCons (mFn0 F_joint_sum (mCons (mV 5) (mCons (mV 6) mNil))) (mCons (mFn0 F__law_joint (mCons (mV 5) (mCons (mV 6) mNil))) mNil)))))) (mSeq (mRet (mC (.bl false)))
  mNx) mNx)
  (mSeq (mFor (mRange1 (mCons (mC (.int 4)) mNil)) (tgN 7) L_law_2)
  (mSeq (mRefs 16 (subOf "InvalidProof") [(mFn0 (F_root_of 12) (mCons (asD (mLst mNil)) mNil)), (mFn0 (F_item_proof 12) (mCons (asD (mLst mNil)) (mCons (mC (.int 0)) mNil))), (mFn0 (F_item_proof 12) (mCons (mV 3) (mCons (mV 2) mNil))), (mFn0 (F_item_proof 12) (mCons (mV 3) (mCons (m2 oSub (asP (mC (.int 0))) (asP (mC (.int 1)))) mNil)))])
  (mSeq (mRet (m2 oIs (asP (mFn0 F_takes_item (mCons (mV 5) (mCons (mC (.int 0)) (mCons (mC (.int 0)) (mCons (asD (mLst mNil)) (mCons (asD (mLst mNil)) mNil))))))) (asP (mC (.bl false)))))
  mNx)))))))))))
def F_law : Fn := mFun none 18 B_law
section
variable {P : Program} {w : World} {K : PySem.W.Frag} {mg : Str → Option Value} {base : Heap} {T : List (Addr × Str)} {blts : List Str}
abbrev s__law_is_refused : Stmt := topS 29
theorem sc__law_is_refused : FnScope ["call"] ["call"] (defScope s__law_is_refused) := ⟨rfl, rfl, rfl, by decide +kernel, rfl, by decide +kernel, by decide +kernel⟩
theorem Rr : RefDef "_law_is_refused" "call" "InvalidProof" s__law_is_refused := ⟨_, _, _, _, _, _, _, _, _, _, _, _, rfl⟩
theorem ok_law {f c Pt : Addr} {fd : FuncData} (Ff : FunC K "law" "law" s_law f fd c)
    (TB : LamX.TabB base mg c Pt) (hmT : (Pt, ("law" : Str) ++ ".<locals>." ++ "<lambda>") ∈ T) (huT : ∀ p ∈ T, p.1 = Pt → p.2 = ("law" : Str) ++ ".<locals>." ++ "<lambda>")
    {fr CS : Addr} {fdr : FuncData} (Fr : Fun K "_law_is_refused" "_law_is_refused" s__law_is_refused fr fdr) (br : L2.Binds K fdr ["call"] []) (mr : mg "_law_is_refused" = some (.ref fr))
    (m_exc : mg "InvalidProof" = some (.ref CS)) (h_sub : ∀ z C b, (subOf "InvalidProof") z = some b → mg z = some (.ref C) → PySem.W.exmOne K (.ref C) (.ref CS) = some b)
    (h_takes_item : Def P w K mg base T "takes_item" ["root", "count", "index", "octets", "proof"] 15 F_takes_item)
    (h_root_of : Def P w K mg base T "root_of" ["items"] 14 (F_root_of 12))
    (h_item_proof : Def P w K mg base T "item_proof" ["items", "index"] 26 (F_item_proof 12))
    (h__law_same : Def P w K mg base T "_law_same" ["found", "due"] 4 (F__law_same 4))
    (h__law_takes : Def P w K mg base T "_law_takes" ["root", "count", "index", "octets", "proof"] 15 F__law_takes)
    (h__law_take : Def P w K mg base T "_law_take" ["draws", "limit"] 1 F__law_take)
    (h__law_bent : Def P w K mg base T "_law_bent" ["draws", "proof"] 2 F__law_bent)
    (h__law_proof : Def P w K mg base T "_law_proof" ["sums", "index"] 26 (F__law_proof 12))
    (h__law_joint : Def P w K mg base T "_law_joint" ["a", "b"] 2 F__law_joint)
    (h_joint_sum : Def P w K mg base T "joint_sum" ["first", "second"] 2 F_joint_sum)
    (h_leaf_sum : Def P w K mg base T "leaf_sum" ["octets"] 2 F_leaf_sum)
    (h__law_sum : Def P w K mg base T "_law_sum" ["octets"] 1 F__law_sum)
    (h_sum_of : Def P w K mg base T "sum_of" ["octets"] 1 F_sum_of)
    (h__law_root : Def P w K mg base T "_law_root" ["sums"] 14 (F__law_root 12))
    (h__law_leaf : Def P w K mg base T "_law_leaf" ["octets"] 2 F__law_leaf)
    (h__law_draws : DefO P w K mg base T "_law_draws" ["script", "count"] 1 F__law_draws)
    (hb : ∀ x ∈ blts, mg x = none) (hbl : (["range"] : List Str) ⊆ blts) :
    FnOk P w K mg base (L2.CX P w) 29 f fd ["script"] (spF ⟨K, mg, T⟩ 1 F_law) := by
  obtain ⟨f_takes_item, fd_takes_item, m_takes_item, k_takes_item, b_takes_item, G_takes_item⟩ := h_takes_item
  obtain ⟨f_root_of, fd_root_of, m_root_of, k_root_of, b_root_of, G_root_of⟩ := h_root_of
  obtain ⟨f_item_proof, fd_item_proof, m_item_proof, k_item_proof, b_item_proof, G_item_proof⟩ := h_item_proof
  obtain ⟨f__law_same, fd__law_same, m__law_same, k__law_same, b__law_same, G__law_same⟩ := h__law_same
  obtain ⟨f__law_takes, fd__law_takes, m__law_takes, k__law_takes, b__law_takes, G__law_takes⟩ := h__law_takes
  obtain ⟨f__law_take, fd__law_take, m__law_take, k__law_take, b__law_take, G__law_take⟩ := h__law_take
  obtain ⟨f__law_bent, fd__law_bent, m__law_bent, k__law_bent, b__law_bent, G__law_bent⟩ := h__law_bent
  obtain ⟨f__law_proof, fd__law_proof, m__law_proof, k__law_proof, b__law_proof, G__law_proof⟩ := h__law_proof
  obtain ⟨f__law_joint, fd__law_joint, m__law_joint, k__law_joint, b__law_joint, G__law_joint⟩ := h__law_joint
  obtain ⟨f_joint_sum, fd_joint_sum, m_joint_sum, k_joint_sum, b_joint_sum, G_joint_sum⟩ := h_joint_sum
  obtain ⟨f_leaf_sum, fd_leaf_sum, m_leaf_sum, k_leaf_sum, b_leaf_sum, G_leaf_sum⟩ := h_leaf_sum
  obtain ⟨f__law_sum, fd__law_sum, m__law_sum, k__law_sum, b__law_sum, G__law_sum⟩ := h__law_sum
  obtain ⟨f_sum_of, fd_sum_of, m_sum_of, k_sum_of, b_sum_of, G_sum_of⟩ := h_sum_of
  obtain ⟨f__law_root, fd__law_root, m__law_root, k__law_root, b__law_root, G__law_root⟩ := h__law_root
  obtain ⟨f__law_leaf, fd__law_leaf, m__law_leaf, k__law_leaf, b__law_leaf, G__law_leaf⟩ := h__law_leaf
  obtain ⟨f__law_draws, fd__law_draws, m__law_draws, k__law_draws, b__law_draws, G__law_draws⟩ := h__law_draws
  have hb : ∀ x ∈ [("range" : Str)], mg x = none := fun x hx => hb x (hbl hx)
  refine fn_okC (j := 28) (n := 1) (k := 18) (io := none) (m := B_law) Ff sc_law rfl rfl fun A outer s H E hr W0 tk => ?_
  exact (mss_cons (ms_setO 1 sc_law.nd (mf_fnO G__law_draws (hr.mono (by omega)) rfl m__law_draws k__law_draws b__law_draws tk (ma_cons (md_var 0) (ma_cons md_int ma_nil))))
  (mss_cons (ms_set 2 sc_law.nd (md_add (MD.p md_int) (MD.p (md_fn1 G__law_take (hr.mono (by omega)) rfl m__law_take k__law_take b__law_take tk (m1_here 1 (ma_cons (md_if (mt_cmp (c_eq hr.units) (MD.p (md_fn1 G__law_take (hr.mono (by omega)) rfl m__law_take k__law_take b__law_take tk (m1_here 1 (ma_cons md_int ma_nil)))) (MD.p md_int)) md_int md_int) ma_nil))))))
  (mss_cons (ms_set 3 sc_law.nd (MF.d (mf_lc (own := [("j", 17)]) rfl sc_law.nd (mi_range1 rfl (hb "range" (by decide)) (ma_cons (md_var 2) ma_nil)) (blkOk_by (N := ["script", "draws", "many", "items", "sums", "root", "other", "turn", "index", "proof", "k", "bent", "count", "place", "octets", "row", "call", "j", "item"]) (sc := defScope s_law) (own := [("j", 17)]) (by decide +kernel)) (fun _ _ _ _ _ => (mgc_name sc_law.nd rfl (by first | exact .inl rfl | exact .inr rfl) (by decide))) (fun _ _ _ _ _ => mts_nil) (fun _ _ _ _ _ => (MF.d (mf_lc (own := [("k", 10)]) rfl sc_law.nd (mi_range1 rfl (hb "range" (by decide)) (ma_cons (md_fn1 G__law_take (hr.mono (by omega)) rfl m__law_take k__law_take b__law_take L2.takes0 (m1_here 1 (ma_cons md_int ma_nil))) ma_nil)) (blkOk_by (own := [("k", 10)]) (by rfl)) (fun _ _ _ _ _ => (mgc_name sc_law.nd rfl (by first | exact .inl rfl | exact .inr rfl) (by decide))) (fun _ _ _ _ _ => mts_nil) (fun _ _ _ _ _ => (md_fn1 G__law_take (hr.mono (by omega)) rfl m__law_take k__law_take b__law_take L2.takes0 (m1_here 1 (ma_cons md_int ma_nil))))))))))
  (mss_cons (ms_lc (own := [("item", 18)]) 4 rfl sc_law.nd (mi_seq (md_var 3)) (blkOk_by (N := ["script", "draws", "many", "items", "sums", "root", "other", "turn", "index", "proof", "k", "bent", "count", "place", "octets", "row", "call", "j", "item"]) (sc := defScope s_law) (own := [("item", 18)]) (by decide +kernel)) (fun _ _ _ _ _ => (mgc_name sc_law.nd rfl (by first | exact .inl rfl | exact .inr rfl) (by decide))) (fun _ _ _ _ _ => mts_nil) (fun _ _ _ _ _ => (md_fn0 G__law_leaf (hr.mono (by omega)) rfl m__law_leaf k__law_leaf b__law_leaf L2.takes0 (ma_cons (md_var 18) ma_nil))) (sw_true rfl rfl rfl (by decide +kernel)))
  (mss_cons (ms_set 5 sc_law.nd (md_fn0 G__law_root (hr.mono (by omega)) rfl m__law_root k__law_root b__law_root tk (ma_cons (md_var 4) ma_nil)))
  (mss_cons (ms_if (MW.t (mw_or (mt_not (mt_tru (MD.p (md_fn0 G__law_same (hr.mono (by omega)) rfl m__law_same k__law_same b__law_same tk (ma_cons (md_fn0 G_root_of (hr.mono (by omega)) rfl m_root_of k_root_of b_root_of tk (ma_cons (md_var 3) ma_nil)) (ma_cons (md_var 5) ma_nil)))))) (mw_or (mt_not (mt_tru (MD.p (md_fn0 G__law_same (hr.mono (by omega)) rfl m__law_same k__law_same b__law_same tk (ma_cons (md_fn0 G_sum_of (hr.mono (by omega)) rfl m_sum_of k_sum_of b_sum_of tk (ma_cons (md_ix (mp_slot 3) (MD.p md_int)) ma_nil)) (ma_cons (md_fn0 G__law_sum (hr.mono (by omega)) rfl m__law_sum k__law_sum b__law_sum tk (ma_cons (md_ix (mp_slot 3) (MD.p md_int)) ma_nil)) ma_nil)))))) (mw_or1 (mt_not (mt_tru (MD.p (md_fn0 G__law_same (hr.mono (by omega)) rfl m__law_same k__law_same b__law_same tk (ma_cons (md_fn0 G_leaf_sum (hr.mono (by omega)) rfl m_leaf_sum k_leaf_sum b_leaf_sum tk (ma_cons (md_ix (mp_slot 3) (MD.p md_int)) ma_nil)) (ma_cons (md_ix (mp_slot 4) (MD.p md_int)) ma_nil)))))))))) (mss_cons (ms_ret md_bl)
  mss_nil) mss_nil)
  (mss_cons (ms_set 6 sc_law.nd (md_ix (mp_slot 4) (MD.p (md_fn1 G__law_take (hr.mono (by omega)) rfl m__law_take k__law_take b__law_take tk (m1_here 1 (ma_cons (md_var 2) ma_nil))))))
  (mss_cons (ms_if (mt_not (mt_tru (MD.p (md_fn0 G__law_same (hr.mono (by omega)) rfl m__law_same k__law_same b__law_same tk (ma_cons (md_fn0 G_joint_sum (hr.mono (by omega)) rfl m_joint_sum k_joint_sum b_joint_sum tk (ma_cons (md_var 5) (ma_cons (md_var 6) ma_nil))) (ma_cons (md_fn0 G__law_joint (hr.mono (by omega)) rfl m__law_joint k__law_joint b__law_joint tk (ma_cons (md_var 5) (ma_cons (md_var 6) ma_nil))) ma_nil)))))) (mss_cons (ms_ret md_bl)
  mss_nil) mss_nil)
  (mss_cons (ms_for (passes_of rfl) rfl (mi_range1 rfl (hb "range" (by decide)) (ma_cons md_int ma_nil)) (mg_name sc_law.nd rfl (by first | exact .inl rfl | exact .inr rfl) (by decide)) (mss_cons (ms_set 8 sc_law.nd (md_fn1 G__law_take (hr.mono (by omega)) rfl m__law_take k__law_take b__law_take tk (m1_here 1 (ma_cons (md_var 2) ma_nil))))
  (mss_cons (ms_set 9 sc_law.nd (md_fn0 G_item_proof (hr.mono (by omega)) rfl m_item_proof k_item_proof b_item_proof tk (ma_cons (md_var 3) (ma_cons (md_var 8) ma_nil))))
  (mss_cons (ms_if (MW.t (mw_or (mt_not (mt_tru (MD.p (md_fn0 G__law_same (hr.mono (by omega)) rfl m__law_same k__law_same b__law_same tk (ma_cons (md_var 9) (ma_cons (md_fn0 G__law_proof (hr.mono (by omega)) rfl m__law_proof k__law_proof b__law_proof tk (ma_cons (md_var 4) (ma_cons (md_var 8) ma_nil))) ma_nil)))))) (mw_or1 (mt_cmp c_isn (MD.p (md_fn0 G_takes_item (hr.mono (by omega)) rfl m_takes_item k_takes_item b_takes_item tk (ma_cons (md_var 5) (ma_cons (md_var 2) (ma_cons (md_var 8) (ma_cons (md_ix (mp_slot 3) (mp_slot 8)) (ma_cons (md_var 9) ma_nil))))))) (MD.p md_bl))))) (mss_cons (ms_ret md_bl)
  mss_nil) mss_nil)
  (mss_cons (ms_for (passes_of rfl) rfl (mi_range1 rfl (hb "range" (by decide)) (ma_cons md_int ma_nil)) (mg_name sc_law.nd rfl (by first | exact .inl rfl | exact .inr rfl) (by decide)) (mss_cons (ms_asg (md_tup (ma_cons (md_fn1 G__law_bent (hr.mono (by omega)) rfl m__law_bent k__law_bent b__law_bent tk (m1_here 1 (ma_cons (md_var 9) ma_nil))) (ma_cons (md_sub (MD.p (md_add (mp_slot 2) (MD.p (md_fn1 G__law_take (hr.mono (by omega)) rfl m__law_take k__law_take b__law_take tk (m1_here 1 (ma_cons md_int ma_nil)))))) (MD.p md_int)) (ma_cons (md_sub (MD.p (md_fn1 G__law_take (hr.mono (by omega)) rfl m__law_take k__law_take b__law_take tk (m1_here 1 (ma_cons (md_add (mp_slot 2) (MD.p md_int)) ma_nil)))) (MD.p md_int)) (ma_cons (md_ix (mp_slot 3) (MD.p (md_fn1 G__law_take (hr.mono (by omega)) rfl m__law_take k__law_take b__law_take tk (m1_here 1 (ma_cons (md_var 2) ma_nil))))) ma_nil))))) (mg_tup rfl (mgs_cons (mg_name sc_law.nd rfl (by first | exact .inl rfl | exact .inr rfl) (by decide)) (mgs_cons (mg_name sc_law.nd rfl (by first | exact .inl rfl | exact .inr rfl) (by decide)) (mgs_cons (mg_name sc_law.nd rfl (by first | exact .inl rfl | exact .inr rfl) (by decide)) (mgs_cons (mg_name sc_law.nd rfl (by first | exact .inl rfl | exact .inr rfl) (by decide)) mgs_nil))))))
  (mss_cons (ms_for (passes_of rfl) rfl (mi_seq (md_tup (ma_cons (md_tup (ma_cons (md_var 5) (ma_cons (md_var 2) (ma_cons (md_var 8) (ma_cons (md_ix (mp_slot 3) (mp_slot 8)) (ma_cons (md_var 11) ma_nil)))))) (ma_cons (md_tup (ma_cons (md_var 5) (ma_cons (md_var 12) (ma_cons (md_var 8) (ma_cons (md_ix (mp_slot 3) (mp_slot 8)) (ma_cons (md_var 9) ma_nil)))))) (ma_cons (md_tup (ma_cons (md_var 5) (ma_cons (md_var 2) (ma_cons (md_var 13) (ma_cons (md_ix (mp_slot 3) (mp_slot 8)) (ma_cons (md_var 9) ma_nil)))))) (ma_cons (md_tup (ma_cons (md_var 5) (ma_cons (md_var 2) (ma_cons (md_var 8) (ma_cons (md_var 14) (ma_cons (md_var 9) ma_nil)))))) (ma_cons (md_tup (ma_cons (md_add (mp_slot 5) (MD.p md_int)) (ma_cons (md_var 2) (ma_cons (md_var 8) (ma_cons (md_ix (mp_slot 3) (mp_slot 8)) (ma_cons (md_var 9) ma_nil)))))) ma_nil))))))) (mg_name sc_law.nd rfl (by first | exact .inl rfl | exact .inr rfl) (by decide)) (mss_cons (ms_if (mt_not (mt_tru (MD.p (md_fn0 G__law_same (hr.mono (by omega)) rfl m__law_same k__law_same b__law_same tk (ma_cons (md_fn0 G_takes_item (hr.mono (by omega)) rfl m_takes_item k_takes_item b_takes_item tk (ma_cons (md_ix (mp_slot 15) (MD.p md_int)) (ma_cons (md_ix (mp_slot 15) (MD.p md_int)) (ma_cons (md_ix (mp_slot 15) (MD.p md_int)) (ma_cons (md_ix (mp_slot 15) (MD.p md_int)) (ma_cons (md_ix (mp_slot 15) (MD.p md_int)) ma_nil)))))) (ma_cons (md_fn0 G__law_takes (hr.mono (by omega)) rfl m__law_takes k__law_takes b__law_takes tk (ma_cons (md_ix (mp_slot 15) (MD.p md_int)) (ma_cons (md_ix (mp_slot 15) (MD.p md_int)) (ma_cons (md_ix (mp_slot 15) (MD.p md_int)) (ma_cons (md_ix (mp_slot 15) (MD.p md_int)) (ma_cons (md_ix (mp_slot 15) (MD.p md_int)) ma_nil)))))) ma_nil)))))) (mss_cons (ms_ret md_bl)
  mss_nil) mss_nil)
  mss_nil))
  mss_nil)))
  mss_nil)))))
  (mss_cons (ms_refs (T := T) (k := 26) (i := 16) TB rfl hmT huT Fr Rr sc__law_is_refused br rfl mr rfl (.inl rfl) rfl m_exc h_sub (hr.mono (by omega)) (by exact (.cons (l := ⟨_, _, _⟩) ⟨LamX.lamS_by (by show LamX.lamSB (defScope s_law) _ = true; decide +kernel), rfl, fun _ _ _ _ _ => rfl, fun _ _ _ _ _ _ _ hr1 _ tk1 => (md_fn0 G_root_of (hr1.mono (by omega)) rfl m_root_of k_root_of b_root_of tk1 (ma_cons (MF.d (mf_lst ma_nil)) ma_nil))⟩ (.cons (l := ⟨_, _, _⟩) ⟨LamX.lamS_by (by show LamX.lamSB (defScope s_law) _ = true; decide +kernel), rfl, fun _ _ _ _ _ => rfl, fun _ _ _ _ _ _ _ hr1 _ tk1 => (md_fn0 G_item_proof (hr1.mono (by omega)) rfl m_item_proof k_item_proof b_item_proof tk1 (ma_cons (MF.d (mf_lst ma_nil)) (ma_cons md_int ma_nil)))⟩ (.cons (l := ⟨_, _, _⟩) ⟨LamX.lamS_by (by show LamX.lamSB (defScope s_law) _ = true; decide +kernel), rfl, fun _ _ _ _ _ => rfl, fun _ _ _ _ _ _ _ hr1 _ tk1 => (md_fn0 G_item_proof (hr1.mono (by omega)) rfl m_item_proof k_item_proof b_item_proof tk1 (ma_cons (md_var 3) (ma_cons (md_var 2) ma_nil)))⟩ (.cons (l := ⟨_, _, _⟩) ⟨LamX.lamS_by (by show LamX.lamSB (defScope s_law) _ = true; decide +kernel), rfl, fun _ _ _ _ _ => rfl, fun _ _ _ _ _ _ _ hr1 _ tk1 => (md_fn0 G_item_proof (hr1.mono (by omega)) rfl m_item_proof k_item_proof b_item_proof tk1 (ma_cons (md_var 3) (ma_cons (md_sub (MD.p md_int) (MD.p md_int)) ma_nil)))⟩ .nil))))) (passes_of rfl) rfl sc_law.nd rfl rfl (by decide) (by decide) (h0 := fun _ => rfl))
  (mss_cons (ms_ret (md_cmp c_is (MD.p (md_fn0 G_takes_item (hr.mono (by omega)) rfl m_takes_item k_takes_item b_takes_item tk (ma_cons (md_var 5) (ma_cons md_int (ma_cons md_int (ma_cons (MF.d (mf_lst ma_nil)) (ma_cons (MF.d (mf_lst ma_nil)) ma_nil))))))) (MD.p md_bl)))
  mss_nil)))))))))))
end
end Mv

set_option Elab.async false
set_option linter.all false
set_option maxRecDepth 100000
namespace Mv
open PySem PySem.Spec PyProof.Rows L2
def stepZ (f o : Int) : Int := (263 * f + o + 1) % 34359738337
def sumZ (xs : List Int) : Int := xs.foldl stepZ 7
theorem m263 (z : Int) : fMul 263 z = some (263 * z) := v_mul (.inl (by decide))
theorem mM (z : Int) : fMod z 34359738337 = some (z % 34359738337) := v_mod (by omega)
theorem sum_loop (A : Sl) : ∀ (xs : List Int) (f : Int) (sl : Sl), ∃ sl', forGo (tgN 2) L_sum_of_0 (xs.map .int) [A, .fz (.int f), sl] = .ok .nx [A, .fz (.int (xs.foldl stepZ f)), sl']
  | [], f, sl => ⟨sl, forGo_nil⟩
  | x :: xs, f, sl => by
    obtain ⟨sl', e⟩ := sum_loop A xs (stepZ f x) (.fz (.int x))
    refine ⟨sl', ?_⟩
    rw [List.map_cons, forGo_cons (s1 := [A, .fz (.int f), .fz (.int x)]) (by simp)]
    have e1 : L_sum_of_0 [A, .fz (.int f), .fz (.int x)] = .ok .nx [A, .fz (.int (stepZ f x)), .fz (.int x)] := by simp [L_sum_of_0, m263, mM, stepZ]
    rw [e1]
    simp [e]
theorem lsum_loop (A : Sl) : ∀ (xs : List Int) (f : Int) (sl : Sl), ∃ sl', forGo (tgN 2) L__law_sum_0 (xs.map .int) [A, .fz (.int f), sl] = .ok .nx [A, .fz (.int (xs.foldl stepZ f)), sl']
  | [], f, sl => ⟨sl, forGo_nil⟩
  | x :: xs, f, sl => by
    obtain ⟨sl', e⟩ := lsum_loop A xs (stepZ f x) (.fz (.int x))
    refine ⟨sl', ?_⟩
    rw [List.map_cons, forGo_cons (s1 := [A, .fz (.int f), .fz (.int x)]) (by simp)]
    have e1 : L__law_sum_0 [A, .fz (.int f), .fz (.int x)] = .ok .nx [A, .fz (.int (stepZ f x)), .fz (.int x)] := by simp [L__law_sum_0, m263, mM, stepZ]
    rw [e1]
    simp [e]
theorem sum_ok (xs : List Int) : F_sum_of [.fz (.lst (xs.map .int))] = .ok (.int (sumZ xs)) [.fz (.lst (xs.map .int))] := by
  obtain ⟨sl', e⟩ := sum_loop (.fz (.lst (xs.map .int))) xs 7 .no
  exact mFun_rt rfl (s := [.fz (.lst (xs.map .int)), .fz (.int (sumZ xs)), sl']) (by simp [B_sum_of, e, sumZ])
theorem lsum_ok (xs : List Int) : F__law_sum [.fz (.lst (xs.map .int))] = .ok (.int (sumZ xs)) [.fz (.lst (xs.map .int))] := by
  obtain ⟨sl', e⟩ := lsum_loop (.fz (.lst (xs.map .int))) xs 7 .no
  exact mFun_rt rfl (s := [.fz (.lst (xs.map .int)), .fz (.int (sumZ xs)), sl']) (by simp [B__law_sum, e, sumZ])
theorem sum_okL {ds : List D} (xs : List Int) (h : ds = xs.map .int) : F_sum_of [.fz (.lst ds)] = .ok (.int (sumZ xs)) [.fz (.lst ds)] := by subst h; exact sum_ok xs
theorem lsum_okL {ds : List D} (xs : List Int) (h : ds = xs.map .int) : F__law_sum [.fz (.lst ds)] = .ok (.int (sumZ xs)) [.fz (.lst ds)] := by subst h; exact lsum_ok xs
def leafZ (xs : List Int) : Int := sumZ (0 :: xs)
theorem leaf_ok {xs : List Int} (h : xs.length < 1000000) : F_leaf_sum [.fz (.lst (xs.map .int))] = .ok (.int (leafZ xs)) [.fz (.lst (xs.map .int))] := by
  have big := sizeLine_big
  have le : 1 + xs.length ≤ sizeLine := by omega
  exact mFun_rt rfl (s := [.fz (.lst (xs.map .int))]) (by simp [B_leaf_sum, le, sum_okL (ds := .int 0 :: xs.map .int) (0 :: xs) (by simp), leafZ])
theorem lleaf_ok {xs : List Int} (h : xs.length < 1000000) : F__law_leaf [.fz (.lst (xs.map .int))] = .ok (.int (leafZ xs)) [.fz (.lst (xs.map .int))] := by
  have big := sizeLine_big
  have le : 1 + xs.length ≤ sizeLine := by omega
  exact mFun_rt rfl (s := [.fz (.lst (xs.map .int))]) (by simp [B__law_leaf, le, lsum_okL (ds := .int 0 :: xs.map .int) (0 :: xs) (by simp), leafZ])
def digs (x : Int) : List Int := [x % 256, x / 256 % 256, x / 65536 % 256, x / 16777216 % 256, x / 4294967296 % 256]
def jointZ (a b : Int) : Int := sumZ (1 :: (digs a ++ digs b))
theorem digs_ok {A B : Sl} {x : Int} {z : Sl} : lcGo [3] (tgN 3) mYes L_joint_sum_0 (rangeD 0 5) [A, B, .fz (.int x), z] = .ok ((digs x).map .int) [A, B, .fz (.int x), .no] := by
  have sh : ∀ k : Int, 0 ≤ k → fShr x k = some (x / 2 ^ k.toNat) := fun k h => v_shr h
  have mu : ∀ k : Int, fMul 8 k = some (8 * k) := fun z => v_mul (.inl (by decide))
  have step : ∀ (k : Int), 0 ≤ k → L_joint_sum_0 [A, B, .fz (.int x), .fz (.int k)] = .ok (.int (x / 2 ^ (8 * k).toNat % 256)) [A, B, .fz (.int x), .fz (.int k)] := fun k h => by
    simp [L_joint_sum_0, mu, sh (8 * k) (by omega), and255]
  rw [range5]
  simp [lcGo_cons, lcGo_nil, step, digs]
theorem joint_ok (a b : Int) : F_joint_sum [.fz (.int a), .fz (.int b)] = .ok (.int (jointZ a b)) [.fz (.int a), .fz (.int b)] := by
  have big := sizeLine_big
  have l1 : ((digs a ++ digs b).map D.int).length ≤ sizeLine := by simp [digs]; omega
  have r5 := fun s => rg1N 5 s (by omega)
  have two : ∀ s : S, lcEnd ((digs a).map .int ++ (digs b).map .int) s = .ok (.lst ((digs a).map .int ++ (digs b).map .int)) s := fun s => lcEnd_of (by simp [digs]; omega)
  have le : 1 + ((digs a).length + (digs b).length) ≤ sizeLine := by simp [digs]; omega
  exact mFun_rt rfl (s := [.fz (.int a), .fz (.int b), .no, .no]) (by simp [B_joint_sum, lcGo2_cons, lcGo2_nil, lcIn_e, r5, digs_ok, two, le, sum_okL (ds := .int 1 :: ((digs a).map .int ++ (digs b).map .int)) (1 :: (digs a ++ digs b)) (by simp), jointZ])

theorem m256 (z : Int) : fMod z 256 = some (z % 256) := v_mod (by omega)
theorem d256 (z : Int) : fDiv z 256 = some (z / 256) := v_div (by omega) (by omega)
theorem ljoint_loop {A B E : Sl} {x : Int} {row : List D} (h : row.length < 1000000) : L__law_joint_1 [A, B, .ow (.lst row), .fz (.int x), E] = .ok .nx [A, B, .ow (.lst (row ++ (digs x).map .int)), .fz (.int (x / 1099511627776)), .fz (.int 4)] := by
  have big := sizeLine_big
  have r5 := fun s => rg1N 5 s (by omega)
  have step : ∀ (y k : Int) (r : List D), r.length < 1000100 → L__law_joint_0 [A, B, .ow (.lst r), .fz (.int y), .fz (.int k)] = .ok .nx [A, B, .ow (.lst (r ++ [.int (y % 256)])), .fz (.int (y / 256)), .fz (.int k)] := fun y k r h => by
    have : r.length < sizeLine := by
      have : 1000100 ≤ sizeLine := by decide
      omega
    simp [L__law_joint_0, m256, d256, this]
  have l1 : row.length < 1000100 := by omega
  have l2 : row.length + 1 < 1000100 := by omega
  have l3 : row.length + 1 + 1 < 1000100 := by omega
  have l4 : row.length + 1 + 1 + 1 < 1000100 := by omega
  have l5 : row.length + 1 + 1 + 1 + 1 < 1000100 := by omega
  have e1 : x / 256 / 256 = x / 65536 := by omega
  have e2 : x / 65536 / 256 = x / 16777216 := by omega
  have e3 : x / 16777216 / 256 = x / 4294967296 := by omega
  have e4 : x / 4294967296 / 256 = x / 1099511627776 := by omega
  unfold L__law_joint_1
  simp [r5, range5, forGo_cons, forGo_nil, step, l1, l2, l3, l4, l5, e1, e2, e3, e4, digs]
theorem ljoint_ok (a b : Int) : F__law_joint [.fz (.int a), .fz (.int b)] = .ok (.int (jointZ a b)) [.fz (.int a), .fz (.int b)] := by
  have l1 : ∀ E x, L__law_joint_1 [.fz (.int a), .fz (.int b), .ow (.lst [.int 1]), .fz (.int x), E] = _ := fun E x => ljoint_loop (by simp)
  have l2 : ∀ E x y, L__law_joint_1 [.fz (.int a), .fz (.int b), .ow (.lst ([.int 1] ++ (digs y).map .int)), .fz (.int x), E] = _ := fun E x y => ljoint_loop (by simp [digs])
  have q := lsum_okL (ds := [.int 1] ++ (digs a).map .int ++ (digs b).map .int) (1 :: (digs a ++ digs b)) (by simp)
  simp only [List.singleton_append, List.cons_append, List.nil_append, List.append_assoc] at l1 l2 q
  refine mFun_rt rfl (s := [.fz (.int a), .fz (.int b), .fz (.lst (.int 1 :: ((digs a).map .int ++ (digs b).map .int))), .fz (.int (b / 1099511627776)), .fz (.int 4)]) ?_
  simp [B__law_joint, forGo_cons, forGo_nil, l1, l2, q, jointZ]

/-! ### where a tree is cut -/
def cutN (c : Nat) : Nat := 2 ^ (c - 1).log2
theorem cutN_lo {c : Nat} (h : 2 ≤ c) : 1 ≤ cutN c := Nat.one_le_two_pow
theorem cutN_hi {c : Nat} (h : 2 ≤ c) : cutN c < c := by
  have := (Nat.log2_eq_iff (n := c - 1) (k := (c - 1).log2) (by omega)).mp rfl
  unfold cutN
  omega
theorem cutN_half {c : Nat} (h : 2 ≤ c) : c ≤ 2 * cutN c := by
  have := (Nat.log2_eq_iff (n := c - 1) (k := (c - 1).log2) (by omega)).mp rfl
  unfold cutN
  rw [Nat.pow_succ] at this
  omega
theorem cut_ok {c : Nat} (h : 2 ≤ c) (h2 : c ≤ 1000000) : F_cut_of [.fz (.int c)] = .ok (.int (cutN c)) [.fz (.int c)] := by
  have e : Builtin.Int.intBits ((c : Int) - 1) = (c - 1).log2 + 1 := by
    unfold Builtin.Int.intBits
    have h3 : (c : Int) - 1 = ((c - 1 : Nat) : Int) := by omega
    rw [h3]
    have h4 : ((((c - 1 : Nat) : Int)) == 0) = false := by
      rw [beq_eq_false_iff_ne]
      omega
    rw [h4]
    simp
  have hl : (c - 1).log2 ≤ 1000000 := by
    have h1 := (Nat.log2_eq_iff (n := c - 1) (k := (c - 1).log2) (by omega)).mp rfl
    have h2 : (c - 1).log2 < 2 ^ (c - 1).log2 := Nat.lt_two_pow_self
    omega
  have sh : fShl 1 ((((c - 1).log2 + 1 : Nat) : Int) - 1) = some ((cutN c : Nat) : Int) := by
    rw [v_shl (by omega) (by omega) (by decide)]
    have : ((((c - 1).log2 + 1 : Nat) : Int) - 1).toNat = (c - 1).log2 := by omega
    rw [this, Int.one_mul]
    simp [cutN]
  simp only [Int.natCast_add, Int.cast_ofNat_Int] at sh
  exact mFun_rt rfl (s := [.fz (.int c)]) (by
    have sh2 : fShl 1 (((c - 1).log2 : Nat) : Int) = some ((cutN c : Nat) : Int) := by simpa using sh
    simp [B_cut_of, e, sh2])
theorem lcut_ok {c : Nat} (h : 2 ≤ c) (h2 : c ≤ 1000000) : F__law_cut [.fz (.int c)] = .ok (.int (cutN c)) [.fz (.int c)] := by
  have mu : ∀ k : Int, fMul 2 k = some (2 * k) := fun z => v_mul (.inl (by decide))
  have big : c ≤ 2 ^ 39 := by omega
  obtain ⟨k, s', s'', e1, ⟨j, hk, es, hj⟩, e3⟩ := whileGo_inv (c := mB (m2 oLt (asP (m2 oMul (asP (mC (.int 2))) (pS 1))) (pS 0))) (body := L__law_cut_0) (n := 40) (s := [.fz (.int c), .fz (.int 1)]) (fun m s => ∃ k : Nat, k + m = 39 ∧ s = [.fz (.int c), .fz (.int ((2 ^ k : Nat) : Int))] ∧ 2 ^ k < c)
    ⟨39, by omega, 0, by omega, rfl, by omega⟩ (fun m s ⟨k, hk, es, hlt⟩ => by
      subst es
      refine ⟨[.fz (.int c), .fz (.int ((2 ^ k : Nat) : Int))], ?_⟩
      by_cases hc : 2 * 2 ^ k < c
      · right
        have hc' : 2 * ((2 ^ k : Nat) : Int) < (c : Int) := by omega
        have hm : m ≠ 0 := fun z => by
          have : k = 39 := by omega
          subst this
          omega
        refine ⟨by simp only [e_mB, e_m2, e_asP, e_mC, R.bind_okX, kAsP_e0, k2a_e0, e_pS, List.getElem?_cons_succ, List.getElem?_cons_zero, slP_fz, k2b_e0, get_dat, get_sl, slG_fz, kOp_e, v_mulI, mu, Option.map_some, opt_some, v_lt, kB_e0, decide_eq_true hc'], [.fz (.int c), .fz (.int ((2 ^ (k + 1) : Nat) : Int))], m - 1, .inl ?_, by omega, k + 1, by omega, rfl, by rw [Nat.pow_succ]; omega⟩
        have e2 : 2 * ((2 ^ k : Nat) : Int) = ((2 ^ (k + 1) : Nat) : Int) := by rw [Nat.pow_succ]; omega
        simp only [L__law_cut_0, e_mSeq, e_mSet, e_mB, e_m2, e_asP, e_mC, R.bind_okX, kAsP_e0, k2a_e0, e_pS, List.getElem?_cons_succ, List.getElem?_cons_zero, slP_fz, k2b_e0, get_dat, get_sl, slG_fz, kOp_e, v_mulI, mu, Option.map_some, opt_some, kSet_e0, kSeq_e0, e_mNx, e2, List.set_cons_succ, List.set_cons_zero]
      · left
        have hc' : ¬ 2 * ((2 ^ k : Nat) : Int) < (c : Int) := by omega
        simp only [e_mB, e_m2, e_asP, e_mC, R.bind_okX, kAsP_e0, k2a_e0, e_pS, List.getElem?_cons_succ, List.getElem?_cons_zero, slP_fz, k2b_e0, get_dat, get_sl, slG_fz, kOp_e, v_mulI, mu, Option.map_some, opt_some, v_lt, kB_e0, decide_eq_false hc'])
  subst es
  simp only [e_mB, e_m2, e_asP, e_mC, R.bind_okX, kAsP_e0, k2a_e0, e_pS, List.getElem?_cons_succ, List.getElem?_cons_zero, slP_fz, k2b_e0, get_dat, get_sl, slG_fz, kOp_e, v_mulI, mu, Option.map_some, opt_some, v_lt, kB_e0] at e3
  injection e3 with e4 e5
  have hge : ¬ 2 * ((2 ^ j : Nat) : Int) < (c : Int) := of_decide_eq_false e4
  have hcut : cutN c = 2 ^ j := by
    have : (c - 1).log2 = j := (Nat.log2_eq_iff (by omega)).mpr ⟨by omega, by rw [Nat.pow_succ]; omega⟩
    unfold cutN
    rw [this]
  rw [hcut]
  subst e5
  refine mFun_rt rfl (s := [.fz (.int c), .fz (.int ((2 ^ j : Nat) : Int))]) ?_
  unfold B__law_cut
  rw [seq_nx (s1 := [.fz (.int c), .fz (.int 1)]) (by simp), seq_nx e1]
  simp only [e_mSeq, e_mRet, e_mV, List.getElem?_cons_succ, List.getElem?_cons_zero, slV_fz, R.bind_okX, kRet_e0, kSeq_e1]

/-! ### roots -/
abbrev Lst (xs : List Int) : D := .lst (xs.map .int)
abbrev Itm (xss : List (List Int)) : D := .lst (xss.map Lst)
theorem eq0 {n : Nat} (h : n ≠ 0) : (decide ((n : Int) = 0)) = false := by
  simp
  omega
/-- the root of leaves' sums -/
def rootZ (xs : List Int) : Int := if h : 2 ≤ xs.length then jointZ (rootZ (xs.take (cutN xs.length))) (rootZ (xs.drop (cutN xs.length))) else xs.headD 0
termination_by xs.length
decreasing_by
  · have := cutN_hi h
    simp only [List.length_take]
    omega
  · have := cutN_lo h
    simp only [List.length_drop]
    omega
theorem rootZ_one (x : Int) : rootZ [x] = x := by
  unfold rootZ
  simp
theorem rootZ_cut {xs : List Int} (h : 2 ≤ xs.length) : rootZ xs = jointZ (rootZ (xs.take (cutN xs.length))) (rootZ (xs.drop (cutN xs.length))) := by
  conv => lhs; unfold rootZ
  rw [dif_pos h]
theorem root_is : ∀ (n : Nat) (xss : List (List Int)), xss.length ≤ 2 ^ n → 1 ≤ xss.length → xss.length ≤ 1000000 → (∀ x ∈ xss, x.length < 1000000) →
    F_root_of (n + 1) [.fz (Itm xss)] = .ok (.int (rootZ (xss.map leafZ))) [.fz (Itm xss)] ∧ F__law_root (n + 1) [.fz (Lst (xss.map leafZ))] = .ok (.int (rootZ (xss.map leafZ))) [.fz (Lst (xss.map leafZ))] := by
  have nil_case : ∀ (n : Nat) (x : List Int), x.length < 1000000 → F_root_of (n + 1) [.fz (Itm [x])] = .ok (.int (rootZ ([x].map leafZ))) [.fz (Itm [x])] ∧ F__law_root (n + 1) [.fz (Lst ([x].map leafZ))] = .ok (.int (rootZ ([x].map leafZ))) [.fz (Lst ([x].map leafZ))] := fun n x hx => by
    have e0 : atI [Lst x] 0 = some (Lst x) := v_at (by omega) rfl
    have e1 : atI [D.int (leafZ x)] 0 = some (D.int (leafZ x)) := v_at (by omega) rfl
    rw [show rootZ ([x].map leafZ) = leafZ x from rootZ_one _]
    refine ⟨mFun_rt rfl (s := [.fz (Itm [x]), .no]) (by simp [B_root_of, e0, leaf_ok hx]), mFun_rt rfl (s := [.fz (Lst ([x].map leafZ)), .no]) (by simp [B__law_root, e1])⟩
  intro n
  induction n with
  | zero =>
    intro xss h1 h2 h3 h4
    match xss, h1, h2 with
    | [x], _, _ => exact nil_case 0 x (h4 x (by simp))
    | _ :: _ :: _, h1, _ => simp at h1
  | succ n ih =>
    intro xss h1 h2 h3 h4
    by_cases hl : xss.length = 1
    · match xss, hl with
      | [x], _ => exact nil_case _ x (h4 x (by simp))
    have h5 : 2 ≤ xss.length := by omega
    have c1 := cutN_lo h5
    have c2 := cutN_hi h5
    have c3 := cutN_half h5
    have c4 : cutN xss.length ≤ 2 ^ n := by
      unfold cutN
      refine Nat.pow_le_pow_right (by omega) ?_
      have := (Nat.log2_lt (n := xss.length - 1) (k := n + 1) (by omega)).mpr (by omega)
      omega
    obtain ⟨a1, b1⟩ := ih (xss.take (cutN xss.length)) (by simp; omega) (by simp; omega) (by simp; omega) fun x hx => h4 x (List.mem_of_mem_take hx)
    obtain ⟨a2, b2⟩ := ih (xss.drop (cutN xss.length)) (by simp; omega) (by simp; omega) (by simp; omega) fun x hx => h4 x (List.mem_of_mem_drop hx)
    rw [rootZ_cut (xs := xss.map leafZ) (by simpa using h5)]
    simp only [List.length_map, ← List.map_take, ← List.map_drop]
    generalize rootZ ((xss.take (cutN xss.length)).map leafZ) = v1 at a1 b1 ⊢
    generalize rootZ ((xss.drop (cutN xss.length)).map leafZ) = v2 at a2 b2 ⊢
    simp only [Itm, Lst, List.map_take, List.map_drop, List.map_map] at a1 a2 b1 b2
    have k1 : ∀ (l : List D), cut l none (some ((cutN xss.length : Nat) : Int)) = l.take (cutN xss.length) := fun l => by rw [cut_hi (by omega)]; simp
    have k2 : ∀ (l : List D), cut l (some ((cutN xss.length : Nat) : Int)) none = l.drop (cutN xss.length) := fun l => by rw [cut_lo (by omega)]; simp
    have n0 : ¬ ((xss.length : Int) = 0) := by omega
    have n1 : ¬ ((xss.length : Int) = 1) := by omega
    have n0' : xss ≠ [] := fun z => by rw [z] at h5; simp at h5
    refine ⟨mFun_rt rfl (s := [.fz (Itm xss), .fz (.int (cutN xss.length))]) ?_, mFun_rt rfl (s := [.fz (Lst (xss.map leafZ)), .fz (.int (cutN xss.length))]) ?_⟩
    · simp [B_root_of, n0, n0', n1, cut_ok h5 h3, k1, k2, a1, a2, joint_ok]
    · simp [B__law_root, n0, n1, lcut_ok h5 h3, k1, k2, b1, b2, ljoint_ok]

/-! ### climbing -/
def rD : Option (Int × List Int) → D
  | none => .non
  | some (v, q) => .tup [.int v, Lst q]
theorem at0 (x : D) (xs : List D) : atI (x :: xs) 0 = some x := v_at (by omega) rfl
theorem at1 (x y : D) (xs : List D) : atI (x :: y :: xs) 1 = some y := v_at (by omega) rfl
theorem cut1 (x : D) (xs : List D) : cut (x :: xs) (some 1) none = xs := by rw [cut_lo (by omega)]; rfl
/-! ### proofs -/
theorem proof_both : ∀ (n : Nat) (xss : List (List Int)) (i : Nat), n ≤ 11 → xss.length ≤ 2 ^ n → i < xss.length → xss.length ≤ 1000000 → (∀ x ∈ xss, x.length < 1000000) →
    ∃ ps : List Int, ps.length ≤ n ∧ F_item_proof (n + 1) [.fz (Itm xss), .fz (.int i)] = .ok (Lst ps) [.fz (Itm xss), .fz (.int i)] ∧ F__law_proof (n + 1) [.fz (Lst (xss.map leafZ)), .fz (.int i)] = .ok (Lst ps) [.fz (Lst (xss.map leafZ)), .fz (.int i)] ∧ ∀ tail : List Int, F_climbed (n + 1) [.fz (.int (xss.length : Nat)), .fz (.int i), .fz (.int (leafZ (xss.getD i []))), .fz (Lst (ps ++ tail))] = .ok (.tup [.int (rootZ (xss.map leafZ)), Lst tail]) [.fz (.int (xss.length : Nat)), .fz (.int i), .fz (.int (leafZ (xss.getD i []))), .fz (Lst (ps ++ tail))] := by
  have one : ∀ (n : Nat) (x : List Int) (i : Nat), i < 1 → ∃ ps : List Int, ps.length ≤ n ∧ F_item_proof (n + 1) [.fz (Itm [x]), .fz (.int i)] = .ok (Lst ps) [.fz (Itm [x]), .fz (.int i)] ∧ F__law_proof (n + 1) [.fz (Lst ([x].map leafZ)), .fz (.int i)] = .ok (Lst ps) [.fz (Lst ([x].map leafZ)), .fz (.int i)] ∧ ∀ tail : List Int, F_climbed (n + 1) [.fz (.int ([x].length : Nat)), .fz (.int i), .fz (.int (leafZ ([x].getD i []))), .fz (Lst (ps ++ tail))] = .ok (.tup [.int (rootZ ([x].map leafZ)), Lst tail]) [.fz (.int ([x].length : Nat)), .fz (.int i), .fz (.int (leafZ ([x].getD i []))), .fz (Lst (ps ++ tail))] := fun n x i hi => by
    have : i = 0 := by omega
    subst this
    refine ⟨[], by simp, mFun_rt rfl (s := [.fz (Itm [x]), .fz (.int 0), .no]) (by simp [B_item_proof]), mFun_rt rfl (s := [.fz (Lst ([x].map leafZ)), .fz (.int 0), .no]) (by simp [B__law_proof]), fun tail => ?_⟩
    rw [show rootZ ([x].map leafZ) = leafZ x from rootZ_one _]
    exact mFun_rt rfl (s := [.fz (.int (1 : Nat)), .fz (.int (0 : Nat)), .fz (.int (leafZ x)), .fz (Lst tail), .no, .no, .no, .no]) (by simp [B_climbed])
  intro n
  induction n with
  | zero =>
    intro xss i h0 h1 h2 h3 h4
    match xss, h1, h2 with
    | [x], _, h2 => exact one 0 x i (by simpa using h2)
    | _ :: _ :: _, h1, _ => simp at h1
  | succ n ih =>
    intro xss i h0 h1 h2 h3 h4
    by_cases hl : xss.length = 1
    · match xss, hl, h2 with
      | [x], _, h2 => exact one _ x i (by simpa using h2)
    have h5 : 2 ≤ xss.length := by omega
    have c1 := cutN_lo h5
    have c2 := cutN_hi h5
    have c3 := cutN_half h5
    have c4 : cutN xss.length ≤ 2 ^ n := by
      unfold cutN
      refine Nat.pow_le_pow_right (by omega) ?_
      have := (Nat.log2_lt (n := xss.length - 1) (k := n + 1) (by omega)).mpr (by omega)
      omega
    have p11 : 2 ^ n ≤ 2 ^ 11 := Nat.pow_le_pow_right (by omega) (by omega)
    have k1 : ∀ (l : List D), cut l none (some ((cutN xss.length : Nat) : Int)) = l.take (cutN xss.length) := fun l => by rw [cut_hi (by omega)]; simp
    have k2 : ∀ (l : List D), cut l (some ((cutN xss.length : Nat) : Int)) none = l.drop (cutN xss.length) := fun l => by rw [cut_lo (by omega)]; simp
    have n1 : ¬ ((xss.length : Int) = 1) := by omega
    have i0 : (i : Int) < (xss.length : Int) := by omega
    have big := sizeLine_big
    have t4 : ∀ x ∈ xss.take (cutN xss.length), x.length < 1000000 := fun x hx => h4 x (List.mem_of_mem_take hx)
    have d4 : ∀ x ∈ xss.drop (cutN xss.length), x.length < 1000000 := fun x hx => h4 x (List.mem_of_mem_drop hx)
    by_cases hi : i < cutN xss.length
    · obtain ⟨ps, l1, a1, b1, g1⟩ := ih (xss.take (cutN xss.length)) i (by omega) (by simp; omega) (by simp; omega) (by simp; omega) t4
      obtain ⟨a2, b2⟩ := root_is 11 (xss.drop (cutN xss.length)) (by simp; omega) (by simp; omega) (by simp; omega) d4
      have rc := rootZ_cut (xs := xss.map leafZ) (by simpa using h5)
      simp only [List.length_map, ← List.map_take, ← List.map_drop] at rc
      generalize rootZ ((xss.drop (cutN xss.length)).map leafZ) = v at a2 b2 rc
      simp only [Itm, Lst, List.map_take, List.map_drop, List.map_map] at a1 a2 b1 b2
      have hi' : (i : Int) < (cutN xss.length : Int) := by omega
      have sl : ps.length + 1 ≤ sizeLine := by omega
      refine ⟨ps ++ [v], by simp; omega, mFun_rt rfl (s := [.fz (Itm xss), .fz (.int i), .fz (.int (cutN xss.length))]) ?_, mFun_rt rfl (s := [.fz (Lst (xss.map leafZ)), .fz (.int i), .fz (.int (cutN xss.length))]) ?_, fun tail => ?_⟩
      · simp [B_item_proof, i0, n1, hi, hi', cut_ok h5 h3, k1, k2, a1, a2, sl]
      · simp [B__law_proof, n1, hi, hi', lcut_ok h5 h3, k1, k2, b1, b2, sl]
      · have gx : (xss.take (cutN xss.length)).getD i [] = xss.getD i [] := by simp [List.getD, hi]
        have g2 := g1 (v :: tail)
        have ln : (xss.take (cutN xss.length)).length = cutN xss.length := by simp; omega
        rw [gx, ln] at g2
        rw [rc, List.append_assoc, List.singleton_append]
        generalize rootZ ((xss.take (cutN xss.length)).map leafZ) = u at g2 ⊢
        generalize leafZ (xss.getD i []) = lf at g2 ⊢
        generalize ps ++ v :: tail = qs at g2 ⊢
        refine mFun_rt rfl (s := [.fz (.int xss.length), .fz (.int i), .fz (.int lf), .fz (Lst qs), .fz (.int (cutN xss.length)), .fz (.tup [.int u, Lst (v :: tail)]), .fz (.int u), .fz (Lst (v :: tail))]) ?_
        simp only [Lst] at g2
        simp [B_climbed, n1, hi', cut_ok h5 h3, g2, at0, at1, cut1, joint_ok]
    · obtain ⟨ps, l1, a1, b1, g1⟩ := ih (xss.drop (cutN xss.length)) (i - cutN xss.length) (by omega) (by simp; omega) (by simp; omega) (by simp; omega) d4
      obtain ⟨a2, b2⟩ := root_is 11 (xss.take (cutN xss.length)) (by simp; omega) (by simp; omega) (by simp; omega) t4
      have rc := rootZ_cut (xs := xss.map leafZ) (by simpa using h5)
      simp only [List.length_map, ← List.map_take, ← List.map_drop] at rc
      generalize rootZ ((xss.take (cutN xss.length)).map leafZ) = v at a2 b2 rc
      have sb : ((i - cutN xss.length : Nat) : Int) = (i : Int) - (cutN xss.length : Int) := by omega
      simp only [Itm, Lst, List.map_take, List.map_drop, List.map_map, sb] at a1 a2 b1 b2
      have hi' : ¬ (i : Int) < (cutN xss.length : Int) := by omega
      have sl : ps.length + 1 ≤ sizeLine := by omega
      refine ⟨ps ++ [v], by simp; omega, mFun_rt rfl (s := [.fz (Itm xss), .fz (.int i), .fz (.int (cutN xss.length))]) ?_, mFun_rt rfl (s := [.fz (Lst (xss.map leafZ)), .fz (.int i), .fz (.int (cutN xss.length))]) ?_, fun tail => ?_⟩
      · simp [B_item_proof, i0, n1, hi, hi', cut_ok h5 h3, k1, k2, a1, a2, sl]
      · simp [B__law_proof, n1, hi, hi', lcut_ok h5 h3, k1, k2, b1, b2, sl]
      · have gx : (xss.drop (cutN xss.length)).getD (i - cutN xss.length) [] = xss.getD i [] := by
          have : cutN xss.length + (i - cutN xss.length) = i := by omega
          simp [List.getD, this]
        have g2 := g1 (v :: tail)
        have ln : (((xss.drop (cutN xss.length)).length : Nat) : Int) = (xss.length : Int) - (cutN xss.length : Int) := by simp; omega
        rw [gx, ln, sb] at g2
        rw [rc, List.append_assoc, List.singleton_append]
        generalize rootZ ((xss.drop (cutN xss.length)).map leafZ) = u at g2 ⊢
        generalize leafZ (xss.getD i []) = lf at g2 ⊢
        generalize ps ++ v :: tail = qs at g2 ⊢
        refine mFun_rt rfl (s := [.fz (.int xss.length), .fz (.int i), .fz (.int lf), .fz (Lst qs), .fz (.int (cutN xss.length)), .fz (.tup [.int u, Lst (v :: tail)]), .fz (.int u), .fz (Lst (v :: tail))]) ?_
        simp only [Lst] at g2
        simp [B_climbed, n1, hi', cut_ok h5 h3, g2, at0, at1, cut1, joint_ok]
theorem climb_both : ∀ (n c i : Nat) (f : Int) (ps : List Int), n ≤ 11 → c ≤ 2 ^ n → i < c →
    ∃ r : Option (Int × List Int), F_climbed (n + 1) [.fz (.int c), .fz (.int i), .fz (.int f), .fz (Lst ps)] = .ok (rD r) [.fz (.int c), .fz (.int i), .fz (.int f), .fz (Lst ps)] ∧ F__law_climb (n + 1) [.fz (.int c), .fz (.int i), .fz (.int f), .fz (Lst ps)] = .ok (rD r) [.fz (.int c), .fz (.int i), .fz (.int f), .fz (Lst ps)] := by
  have one : ∀ (n i : Nat) (f : Int) (ps : List Int), ∃ r : Option (Int × List Int), F_climbed (n + 1) [.fz (.int (1 : Nat)), .fz (.int i), .fz (.int f), .fz (Lst ps)] = .ok (rD r) [.fz (.int (1 : Nat)), .fz (.int i), .fz (.int f), .fz (Lst ps)] ∧ F__law_climb (n + 1) [.fz (.int (1 : Nat)), .fz (.int i), .fz (.int f), .fz (Lst ps)] = .ok (rD r) [.fz (.int (1 : Nat)), .fz (.int i), .fz (.int f), .fz (Lst ps)] := fun n i f ps => by
    refine ⟨some (f, ps), mFun_rt rfl (s := [.fz (.int (1 : Nat)), .fz (.int i), .fz (.int f), .fz (Lst ps), .no, .no, .no, .no]) (by simp [B_climbed, rD]), mFun_rt rfl (s := [.fz (.int (1 : Nat)), .fz (.int i), .fz (.int f), .fz (Lst ps), .no, .no]) (by simp [B__law_climb, rD])⟩
  intro n
  induction n with
  | zero =>
    intro c i f ps h0 h1 h2
    have : c = 1 := by omega
    subst this
    exact one 0 i f ps
  | succ n ih =>
    intro c i f ps h0 h1 h2
    by_cases hl : c = 1
    · subst hl
      exact one _ i f ps
    have h5 : 2 ≤ c := by omega
    have p11 : 2 ^ (n + 1) ≤ 2 ^ 11 := Nat.pow_le_pow_right (by omega) (by omega)
    have h3 : c ≤ 1000000 := by omega
    have c1 := cutN_lo h5
    have c2 := cutN_hi h5
    have c3 := cutN_half h5
    have c4 : cutN c ≤ 2 ^ n := by
      unfold cutN
      refine Nat.pow_le_pow_right (by omega) ?_
      have := (Nat.log2_lt (n := c - 1) (k := n + 1) (by omega)).mpr (by omega)
      omega
    have n1 : ¬ ((c : Int) = 1) := by omega
    by_cases hi : i < cutN c
    · obtain ⟨r, a1, b1⟩ := ih (cutN c) i f ps (by omega) c4 hi
      have hi' : (i : Int) < (cutN c : Int) := by omega
      match r, a1, b1 with
      | none, a1, b1 =>
        simp only [rD] at a1 b1
        refine ⟨none, mFun_rt rfl (s := [.fz (.int c), .fz (.int i), .fz (.int f), .fz (Lst ps), .fz (.int (cutN c)), .fz .non, .no, .no]) ?_, mFun_rt rfl (s := [.fz (.int c), .fz (.int i), .fz (.int f), .fz (Lst ps), .fz (.int (cutN c)), .fz .non]) ?_⟩
        · simp [B_climbed, n1, hi', cut_ok h5 h3, a1, rD]
        · simp [B__law_climb, n1, hi', lcut_ok h5 h3, b1, rD]
      | some (v, []), a1, b1 =>
        simp only [rD] at a1 b1
        refine ⟨none, mFun_rt rfl (s := [.fz (.int c), .fz (.int i), .fz (.int f), .fz (Lst ps), .fz (.int (cutN c)), .fz (.tup [.int v, Lst []]), .no, .no]) ?_, mFun_rt rfl (s := [.fz (.int c), .fz (.int i), .fz (.int f), .fz (Lst ps), .fz (.int (cutN c)), .fz (.tup [.int v, Lst []])]) ?_⟩
        · simp [B_climbed, n1, hi', cut_ok h5 h3, a1, rD, at1]
        · simp [B__law_climb, n1, hi', lcut_ok h5 h3, b1, rD, at1]
      | some (v, p :: q), a1, b1 =>
        simp only [rD] at a1 b1
        have nq : ¬ ((q.length : Int) + 1 = 0) := by omega
        refine ⟨some (jointZ v p, q), mFun_rt rfl (s := [.fz (.int c), .fz (.int i), .fz (.int f), .fz (Lst ps), .fz (.int (cutN c)), .fz (.tup [.int v, Lst (p :: q)]), .fz (.int v), .fz (Lst (p :: q))]) ?_, mFun_rt rfl (s := [.fz (.int c), .fz (.int i), .fz (.int f), .fz (Lst ps), .fz (.int (cutN c)), .fz (.tup [.int v, Lst (p :: q)])]) ?_⟩
        · simp [B_climbed, n1, hi', cut_ok h5 h3, a1, rD, at0, at1, cut1, joint_ok]
        · simp [B__law_climb, n1, hi', lcut_ok h5 h3, b1, rD, at0, at1, cut1, ljoint_ok, nq]
    · obtain ⟨r, a1, b1⟩ := ih (c - cutN c) (i - cutN c) f ps (by omega) (by omega) (by omega)
      have hi' : ¬ (i : Int) < (cutN c : Int) := by omega
      have sb : ((i - cutN c : Nat) : Int) = (i : Int) - (cutN c : Int) := by omega
      have sc : ((c - cutN c : Nat) : Int) = (c : Int) - (cutN c : Int) := by omega
      match r, a1, b1 with
      | none, a1, b1 =>
        simp only [rD, sb, sc] at a1 b1
        refine ⟨none, mFun_rt rfl (s := [.fz (.int c), .fz (.int i), .fz (.int f), .fz (Lst ps), .fz (.int (cutN c)), .fz .non, .no, .no]) ?_, mFun_rt rfl (s := [.fz (.int c), .fz (.int i), .fz (.int f), .fz (Lst ps), .fz (.int (cutN c)), .fz .non]) ?_⟩
        · simp [B_climbed, n1, hi', cut_ok h5 h3, a1, rD]
        · simp [B__law_climb, n1, hi', lcut_ok h5 h3, b1, rD]
      | some (v, []), a1, b1 =>
        simp only [rD, sb, sc] at a1 b1
        refine ⟨none, mFun_rt rfl (s := [.fz (.int c), .fz (.int i), .fz (.int f), .fz (Lst ps), .fz (.int (cutN c)), .fz (.tup [.int v, Lst []]), .no, .no]) ?_, mFun_rt rfl (s := [.fz (.int c), .fz (.int i), .fz (.int f), .fz (Lst ps), .fz (.int (cutN c)), .fz (.tup [.int v, Lst []])]) ?_⟩
        · simp [B_climbed, n1, hi', cut_ok h5 h3, a1, rD, at1]
        · simp [B__law_climb, n1, hi', lcut_ok h5 h3, b1, rD, at1]
      | some (v, p :: q), a1, b1 =>
        simp only [rD, sb, sc] at a1 b1
        have nq : ¬ ((q.length : Int) + 1 = 0) := by omega
        refine ⟨some (jointZ p v, q), mFun_rt rfl (s := [.fz (.int c), .fz (.int i), .fz (.int f), .fz (Lst ps), .fz (.int (cutN c)), .fz (.tup [.int v, Lst (p :: q)]), .fz (.int v), .fz (Lst (p :: q))]) ?_, mFun_rt rfl (s := [.fz (.int c), .fz (.int i), .fz (.int f), .fz (Lst ps), .fz (.int (cutN c)), .fz (.tup [.int v, Lst (p :: q)])]) ?_⟩
        · simp [B_climbed, n1, hi', cut_ok h5 h3, a1, rD, at0, at1, cut1, joint_ok]
        · simp [B__law_climb, n1, hi', lcut_ok h5 h3, b1, rD, at0, at1, cut1, ljoint_ok, nq]

/-! ### comparing what was climbed -/
theorem pys_ints : ∀ ns : List Int, D.pys (ns.map .int) = some (ns.map PyData.int)
  | [] => by simp [D.pys]
  | n :: ns => by simp [D.pys, D.py, pys_ints ns]
theorem lay_ints : ∀ ns : List Int, PyData.canLayAll0 (ns.map PyData.int) = true
  | [] => by simp [PyData.canLayAll0]
  | n :: ns => by simp [PyData.canLayAll0, PyData.canLay0, lay_ints ns]
theorem depth_ints : ∀ ns : List Int, PyData.depthAll (ns.map PyData.int) ≤ 1
  | [] => by simp [PyData.depthAll]
  | n :: ns => by
    have := depth_ints ns
    simp [PyData.depthAll, PyData.depth] <;> omega
theorem eq_climbed (r : Option (Int × List Int)) (root : Int) : oEq (rD r) (.tup [.int root, .lst []]) = some (.bl (match r with
    | none => false
    | some (v, q) => decide (v = root) && q.isEmpty)) := by
  cases r with
  | none =>
    have e : eqB .non (.tup [.int root, .lst []]) = some false := by
      simp [eqB, deepEq, D.py, D.pys, SeqAt.shaped, PyData.canLay0, PyData.canLayAll0, PyData.depth, PyData.depthAll, PyData.eqv]
    simp [oEq, rD, e]
  | some p =>
    obtain ⟨v, q⟩ := p
    have d1 := depth_ints q
    have e : eqB (.tup [.int v, Lst q]) (.tup [.int root, .lst []]) = some (decide (v = root) && q.isEmpty) := by
      cases q with
      | nil => simp [eqB, deepEq, D.py, D.pys, SeqAt.shaped, PyData.canLay0, PyData.canLayAll0, PyData.depth, PyData.depthAll, PyData.eqv, PyData.eqvAll]; by_cases h : v = root <;> simp [h]
      | cons x q =>
        have d2 := depth_ints q
        simp [eqB, deepEq, D.py, D.pys, pys_ints, lay_ints, SeqAt.shaped, PyData.canLay0, PyData.canLayAll0, PyData.depth, PyData.depthAll, PyData.eqv, PyData.eqvAll]
        omega
    simp [oEq, rD, e]

theorem takes_both (root c i : Int) (oct ps : List Int) (hc : c ≤ 2048) (ho : oct.length < 1000000) :
    ∃ b : Bool, F_takes_item [.fz (.int root), .fz (.int c), .fz (.int i), .fz (Lst oct), .fz (Lst ps)] = .ok (.bl b) [.fz (.int root), .fz (.int c), .fz (.int i), .fz (Lst oct), .fz (Lst ps)] ∧
      F__law_takes [.fz (.int root), .fz (.int c), .fz (.int i), .fz (Lst oct), .fz (Lst ps)] = .ok (.bl b) [.fz (.int root), .fz (.int c), .fz (.int i), .fz (Lst oct), .fz (Lst ps)] := by
  by_cases h0 : 0 ≤ i
  · by_cases h1 : i < c
    · obtain ⟨n, rfl⟩ : ∃ n : Nat, i = n := ⟨i.toNat, by omega⟩
      obtain ⟨m, rfl⟩ : ∃ n : Nat, c = n := ⟨c.toNat, by omega⟩
      obtain ⟨r, a, b⟩ := climb_both 11 m n (leafZ oct) ps (by omega) (by omega) (by omega)
      have eq := eq_climbed r root
      simp only [Lst] at a b
      refine ⟨_, mFun_rt rfl (s := [.fz (.int root), .fz (.int m), .fz (.int n), .fz (Lst oct), .fz (Lst ps)]) (by simp [B_takes_item, h0, h1, leaf_ok ho, a, eq]; rfl), mFun_rt rfl (s := [.fz (.int root), .fz (.int m), .fz (.int n), .fz (Lst oct), .fz (Lst ps), .fz (rD r)]) ?_⟩
      cases r with
      | none => simp [B__law_takes, h0, h1, lleaf_ok ho, b, rD]
      | some p =>
        obtain ⟨v, q⟩ := p
        by_cases hv : v = root
        · cases q with
          | nil => simp [B__law_takes, h0, h1, lleaf_ok ho, b, rD, at0, at1, hv]
          | cons x q =>
            have nq : ¬ ((q.length : Int) + 1 = 0) := by omega
            simp [B__law_takes, h0, h1, lleaf_ok ho, b, rD, at0, at1, hv, nq]
        · simp [B__law_takes, h0, h1, lleaf_ok ho, b, rD, at0, at1, hv]
    · exact ⟨false, mFun_rt rfl (s := [.fz (.int root), .fz (.int c), .fz (.int i), .fz (Lst oct), .fz (Lst ps)]) (by simp [B_takes_item, h0, h1]), mFun_rt rfl (s := [.fz (.int root), .fz (.int c), .fz (.int i), .fz (Lst oct), .fz (Lst ps), .no]) (by simp [B__law_takes, h0, h1])⟩
  · exact ⟨false, mFun_rt rfl (s := [.fz (.int root), .fz (.int c), .fz (.int i), .fz (Lst oct), .fz (Lst ps)]) (by simp [B_takes_item, h0]), mFun_rt rfl (s := [.fz (.int root), .fz (.int c), .fz (.int i), .fz (Lst oct), .fz (Lst ps), .no]) (by simp [B__law_takes, h0])⟩
/-! ### bent proofs -/
def tkR (xs : List Int) : List Int := xs.dropLast
theorem take' {xs : List Int} {n : Int} (h : 0 < n) : F__law_take [.ow (.lst (xs.map .int)), .fz (.int n)] = .ok (.int (tkV xs n)) [.ow (.lst ((tkR xs).map .int)), .fz (.int n)] := take_ok h
theorem bent_ok (xs ps : List Int) (hp : ps.length ≤ 1000) : ∃ qs ys : List Int, F__law_bent [.ow (.lst (xs.map .int)), .fz (Lst ps)] = .ok (Lst qs) [.ow (.lst (ys.map .int)), .fz (Lst ps)] := by
  have big := sizeLine_big
  have k0 := tkV_lo (xs := xs) (n := 5) (by omega)
  have t5 := take' (xs := xs) (n := 5) (by omega)
  have t1000 := take' (xs := tkR xs) (n := 1000) (by omega)
  generalize tkV xs 5 = k at k0 t5
  have sA : ps.length + 1 ≤ sizeLine := by omega
  by_cases hA : ps.length = 0 ∨ k = 0
  · refine ⟨ps ++ [tkV (tkR xs) 1000], tkR (tkR xs), mFun_rt1 (j := 0) (sl := .ow (.lst ((tkR (tkR xs)).map .int))) rfl (s := [.ow (.lst ((tkR (tkR xs)).map .int)), .fz (Lst ps), .fz (Lst ps), .fz (.int k), .no]) ?_ rfl⟩
    by_cases hl : ps.length = 0
    · have hl' : ps = [] := List.length_eq_zero_iff.mp hl
      subst hl'
      have one : 1 ≤ sizeLine := by omega
      simp [B__law_bent, t5, t1000, sA, one]
    · have hk : k = 0 := by omega
      have hl2 : ¬ ((ps.length : Int) = 0) := by omega
      have hl3 : ps ≠ [] := fun z => by rw [z] at hl; simp at hl
      subst hk
      simp [B__law_bent, t5, t1000, sA, hl2, hl3]
  · have hl : 0 < (ps.length : Int) := by omega
    have hl2 : ¬ ((ps.length : Int) = 0) := by omega
    have hl3 : ps ≠ [] := fun z => by rw [z] at hl; simp at hl
    have hk : ¬ k = 0 := by omega
    have a0 := tkV_lo (xs := tkR xs) hl
    have a1 := tkV_hi (xs := tkR xs) hl
    have tl := take' (xs := tkR xs) hl
    generalize tkV (tkR xs) (ps.length : Int) = at_ at a0 a1 tl
    obtain ⟨a, rfl⟩ : ∃ n : Nat, at_ = n := ⟨at_.toNat, by omega⟩
    have c1 : ∀ l : List D, cut l none (some (a : Int)) = l.take a := fun l => by rw [cut_hi (by omega)]; simp
    have c2 : ∀ l : List D, cut l (some ((a : Int) + 1)) none = l.drop (a + 1) := fun l => by rw [cut_lo (by omega)]; congr 1
    have c3 : ∀ l : List D, cut l (some (a : Int)) none = l.drop a := fun l => by rw [cut_lo (by omega)]; simp
    have la : a < ps.length := by omega
    have at_ok : atI (ps.map D.int) (a : Int) = some (.int ps[a]) := v_at (by omega) (by simp [la])
    have m0 : min a ps.length = a := by omega
    have s1 : a + (ps.length - (a + 1)) ≤ sizeLine := by omega
    have s2 : a + 1 ≤ sizeLine := by omega
    have s3 : a + 1 + (ps.length - (a + 1)) ≤ sizeLine := by omega
    have s4 : a + 1 + (ps.length - a) ≤ sizeLine := by omega
    by_cases h1 : k = 1
    · subst h1
      refine ⟨ps.take a ++ ps.drop (a + 1), tkR (tkR xs), mFun_rt1 (j := 0) (sl := .ow (.lst ((tkR (tkR xs)).map .int))) rfl (s := [.ow (.lst ((tkR (tkR xs)).map .int)), .fz (Lst ps), .fz (Lst ps), .fz (.int 1), .fz (.int a)]) ?_ rfl⟩
      simp [B__law_bent, t5, tl, hl2, hl3, c1, c2, m0, s1, List.map_take, List.map_drop]
    by_cases h2 : k = 2
    · subst h2
      refine ⟨ps.take a ++ [ps[a] + 1] ++ ps.drop (a + 1), tkR (tkR xs), mFun_rt1 (j := 0) (sl := .ow (.lst ((tkR (tkR xs)).map .int))) rfl (s := [.ow (.lst ((tkR (tkR xs)).map .int)), .fz (Lst ps), .fz (Lst ps), .fz (.int 2), .fz (.int a)]) ?_ rfl⟩
      simp [B__law_bent, t5, tl, hl2, hl3, c1, c2, m0, s2, s3, at_ok, List.map_take, List.map_drop]
    by_cases h3 : k = 3
    · subst h3
      refine ⟨ps.reverse, tkR (tkR xs), mFun_rt1 (j := 0) (sl := .ow (.lst ((tkR (tkR xs)).map .int))) rfl (s := [.ow (.lst ((tkR (tkR xs)).map .int)), .fz (Lst ps), .fz (Lst ps), .fz (.int 3), .fz (.int a)]) ?_ rfl⟩
      simp [B__law_bent, t5, tl, hl2, hl3]
    · refine ⟨ps.take a ++ [ps[a]] ++ ps.drop a, tkR (tkR xs), mFun_rt1 (j := 0) (sl := .ow (.lst ((tkR (tkR xs)).map .int))) rfl (s := [.ow (.lst ((tkR (tkR xs)).map .int)), .fz (Lst ps), .fz (Lst ps), .fz (.int k), .fz (.int a)]) ?_ rfl⟩
      simp [B__law_bent, t5, tl, hl2, hl3, hk, h1, h2, h3, c1, c3, m0, s2, s4, at_ok, List.map_take, List.map_drop, List.map_append, -List.take_append_getElem]
end Mv

set_option Elab.async false
set_option linter.all false
set_option maxRecDepth 100000
namespace Mv
open PySem PySem.Spec PyProof.Rows L2
theorem takes_true {root : Int} {c i : Nat} {oct ps : List Int} (hi : i < c) (ho : oct.length < 1000000) (h : F_climbed 12 [.fz (.int c), .fz (.int i), .fz (.int (leafZ oct)), .fz (Lst ps)] = .ok (.tup [.int root, Lst []]) [.fz (.int c), .fz (.int i), .fz (.int (leafZ oct)), .fz (Lst ps)]) :
    F_takes_item [.fz (.int root), .fz (.int c), .fz (.int i), .fz (Lst oct), .fz (Lst ps)] = .ok (.bl true) [.fz (.int root), .fz (.int c), .fz (.int i), .fz (Lst oct), .fz (Lst ps)] := by
  have eq := eq_climbed (some (root, [])) root
  simp only [rD, Lst, List.map_nil, decide_true, List.isEmpty_nil, Bool.and_self] at eq
  simp only [Lst] at h
  exact mFun_rt rfl (s := [.fz (.int root), .fz (.int c), .fz (.int i), .fz (Lst oct), .fz (Lst ps)]) (by
    have h0 : (i : Int) < (c : Int) := by omega
    simp [B_takes_item, h0, leaf_ok ho, h, eq])
theorem proof_ex {n : Nat} {xss : List (List Int)} {i : Int} (h : ¬ (0 ≤ i ∧ i < (xss.length : Int))) : F_item_proof (n + 1) [.fz (Itm xss), .fz (.int i)] = .ex "InvalidProof" .non [.fz (Itm xss), .fz (.int i)] := by
  refine mFun_ex rfl (s := [.fz (Itm xss), .fz (.int i), .no]) ?_
  by_cases h0 : 0 ≤ i
  · have h1 : ¬ i < (xss.length : Int) := fun z => h ⟨h0, z⟩
    simp [B_item_proof, h0, h1]
  · simp [B_item_proof, h0]
theorem root_ex {n : Nat} : F_root_of (n + 1) [.fz (.lst [])] = .ex "InvalidProof" .non [.fz (.lst [])] :=
  mFun_ex rfl (s := [.fz (.lst []), .no]) (by simp [B_root_of])
section
variable {s0 s1 s2 s3 s4 s5 s6 s7 s8 s9 s10 s11 s12 s13 s14 s16 s17 s18 : Sl}
theorem at2 (x y z : D) (xs : List D) : atI (x :: y :: z :: xs) 2 = some z := v_at (by omega) rfl
theorem at3 (x y z u : D) (xs : List D) : atI (x :: y :: z :: u :: xs) 3 = some u := v_at (by omega) rfl
theorem at4 (x y z u v : D) (xs : List D) : atI (x :: y :: z :: u :: v :: xs) 4 = some v := v_at (by omega) rfl
theorem row_ok {root c i : Int} {oct qs : List Int} (hc : c ≤ 2048) (ho : oct.length < 1000000) :
    L_law_0 [s0, s1, s2, s3, s4, s5, s6, s7, s8, s9, s10, s11, s12, s13, s14, .fz (.tup [.int root, .int c, .int i, Lst oct, Lst qs]), s16, s17, s18] = .ok .nx [s0, s1, s2, s3, s4, s5, s6, s7, s8, s9, s10, s11, s12, s13, s14, .fz (.tup [.int root, .int c, .int i, Lst oct, Lst qs]), s16, s17, s18] := by
  obtain ⟨b, e1, e2⟩ := takes_both root c i oct qs hc ho
  have e3 := same_ok (n := 4) (D.Flat.bl b)
  simp only [Lst] at e1 e2
  simp [L_law_0, at0, at1, at2, at3, at4, e1, e2, e3]
end
theorem lst_at {xs : List Int} {i : Nat} (h : i < xs.length) : atI (xs.map D.int) (i : Int) = some (.int xs[i]) := v_at (by omega) (by simp [h])
theorem itm_at {xss : List (List Int)} {i : Nat} (h : i < xss.length) : atI (xss.map Lst) (i : Int) = some (Lst xss[i]) := v_at (by omega) (by simp [h])
def Sta (ns xs : List Int) (xss : List (List Int)) (root : Int) (s6 s7 s8 s9 s10 s11 s12 s13 s14 s15 : Sl) : S :=
  [.fz (.rls (ns.map .int)), .ow (.lst (xs.map .int)), .fz (.int xss.length), .fz (Itm xss), .fz (Lst (xss.map leafZ)), .fz (.int root), s6, s7, s8, s9, s10, s11, s12, s13, s14, s15, .no, .no, .no]
theorem tk_nat {xs : List Int} {n : Int} (h : 0 < n) : ∃ k : Nat, tkV xs n = k ∧ (k : Int) < n := ⟨(tkV xs n).toNat, by have := tkV_lo (xs := xs) h; omega, by have := tkV_lo (xs := xs) h; have := tkV_hi (xs := xs) h; omega⟩
theorem inner_ok {ns xs ps : List Int} {xss : List (List Int)} {root : Int} {i : Nat} {s6 s7 s10 s11 s12 s13 s14 s15 : Sl} (hl : 1 ≤ xss.length) (hl2 : xss.length ≤ 100) (hx : ∀ x ∈ xss, x.length < 1000000) (hp : ps.length ≤ 1000) (hi : i < xss.length) :
    ∃ ys t11 t12 t13 t14 t15, L_law_1 (Sta ns xs xss root s6 s7 (.fz (.int i)) (.fz (Lst ps)) s10 s11 s12 s13 s14 s15) = .ok .nx (Sta ns ys xss root s6 s7 (.fz (.int i)) (.fz (Lst ps)) s10 t11 t12 t13 t14 t15) := by
  obtain ⟨qs, ys, eb⟩ := bent_ok xs ps hp
  have m0 : 0 < (xss.length : Int) := by omega
  have t3 := take' (xs := ys) (n := 3) (by omega)
  have t3a := tkV_lo (xs := ys) (n := 3) (by omega)
  have t3b := tkV_hi (xs := ys) (n := 3) (by omega)
  have tm := take' (xs := tkR ys) (n := (xss.length : Int) + 2) (by omega)
  obtain ⟨k, ek, lk⟩ := tk_nat (xs := tkR (tkR ys)) m0
  have tn := take' (xs := tkR (tkR ys)) m0
  rw [ek] at tn
  have lk' : k < xss.length := by omega
  generalize tkV ys 3 = c at t3 t3a t3b
  generalize tkV (tkR ys) ((xss.length : Int) + 2) = pl at tm
  generalize tkR (tkR (tkR ys)) = zs at tn
  generalize tkR (tkR ys) = y2 at tm tn
  generalize tkR ys = y1 at t3 tm
  have a1 := itm_at hi
  have a2 := itm_at lk'
  have hi2 := hx _ (List.getElem_mem hi)
  have lk2 := hx _ (List.getElem_mem lk')
  refine ⟨zs, .fz (Lst qs), .fz (.int (xss.length + c - 1)), .fz (.int (pl - 1)), .fz (Lst xss[k]), .fz (.tup [.int (root + 1), .int xss.length, .int i, Lst xss[i], Lst ps]), ?_⟩
  unfold Sta
  generalize Sl.fz (Lst (List.map leafZ xss)) = s4
  unfold L_law_1
  rw [seq_nx (s1 := [.fz (.rls (ns.map .int)), .ow (.lst (zs.map .int)), .fz (.int xss.length), .fz (Itm xss), s4, .fz (.int root), s6, s7, .fz (.int i), .fz (Lst ps), s10, .fz (Lst qs), .fz (.int (xss.length + c - 1)), .fz (.int (pl - 1)), .fz (Lst xss[k]), s15, .no, .no, .no]) (by
    simp only [Lst] at eb
    simp [eb, t3, tm, tn, a2])]
  have q1 := fun (r c2 j : Int) (o q : List Int) (h1 : c2 ≤ 2048) (h2 : o.length < 1000000) => row_ok (s0 := .fz (.rls (ns.map .int))) (s1 := .ow (.lst (zs.map .int))) (s2 := .fz (.int xss.length)) (s3 := .fz (Itm xss)) (s4 := s4) (s5 := .fz (.int root)) (s6 := s6) (s7 := s7) (s8 := .fz (.int i)) (s9 := .fz (Lst ps)) (s10 := s10) (s11 := .fz (Lst qs)) (s12 := .fz (.int (xss.length + c - 1))) (s13 := .fz (.int (pl - 1))) (s14 := .fz (Lst xss[k])) (s16 := .no) (s17 := .no) (s18 := .no) (root := r) (c := c2) (i := j) (oct := o) (qs := q) h1 h2
  have w1 := q1 root xss.length i xss[i] qs (by omega) hi2
  have w2 := q1 root (xss.length + c - 1) i xss[i] ps (by omega) hi2
  have w3 := q1 root xss.length (pl - 1) xss[i] ps (by omega) hi2
  have w4 := q1 root xss.length i xss[k] ps (by omega) lk2
  have w5 := q1 (root + 1) xss.length i xss[i] ps (by omega) hi2
  simp only [Lst] at w1 w2 w3 w4 w5
  simp [forGo_cons, forGo_nil, a1, w1, w2, w3, w4, w5]

theorem loop3 {ns xs ps : List Int} {xss : List (List Int)} {root : Int} {i : Nat} {s6 s7 s10 s11 s12 s13 s14 s15 : Sl} (hl : 1 ≤ xss.length) (hl2 : xss.length ≤ 100) (hx : ∀ x ∈ xss, x.length < 1000000) (hp : ps.length ≤ 1000) (hi : i < xss.length) :
    ∃ ys t10 t11 t12 t13 t14 t15, forGo (tgN 10) L_law_1 (rangeD 0 3) (Sta ns xs xss root s6 s7 (.fz (.int i)) (.fz (Lst ps)) s10 s11 s12 s13 s14 s15) = .ok .nx (Sta ns ys xss root s6 s7 (.fz (.int i)) (.fz (Lst ps)) t10 t11 t12 t13 t14 t15) := by
  obtain ⟨s', e, ys, t10, t11, t12, t13, t14, t15, es⟩ := forGo_inv (st := tgN 10) (body := L_law_1) (ds := rangeD 0 3) (s := Sta ns xs xss root s6 s7 (.fz (.int i)) (.fz (Lst ps)) s10 s11 s12 s13 s14 s15) (fun _ s => ∃ ys t10 t11 t12 t13 t14 t15, s = Sta ns ys xss root s6 s7 (.fz (.int i)) (.fz (Lst ps)) t10 t11 t12 t13 t14 t15)
    ⟨xs, s10, s11, s12, s13, s14, s15, rfl⟩ (fun j d s hd ⟨ys, t10, t11, t12, t13, t14, t15, es⟩ => by
      subst es
      obtain ⟨zs, u11, u12, u13, u14, u15, e⟩ := inner_ok (ns := ns) (xs := ys) (ps := ps) (root := root) (s6 := s6) (s7 := s7) (s10 := .fz d) (s11 := t11) (s12 := t12) (s13 := t13) (s14 := t14) (s15 := t15) hl hl2 hx hp hi
      exact ⟨_, _, rfl, .inl e, zs, .fz d, u11, u12, u13, u14, u15, rfl⟩)
  exact ⟨ys, t10, t11, t12, t13, t14, t15, by rw [e, es]⟩
theorem turn2_ok {ns xs : List Int} {xss : List (List Int)} {s6 s7 s8 s9 s10 s11 s12 s13 s14 s15 : Sl} (hl : 1 ≤ xss.length) (hl2 : xss.length ≤ 100) (hx : ∀ x ∈ xss, x.length < 1000000) :
    ∃ ys t8 t9 t10 t11 t12 t13 t14 t15, L_law_2 (Sta ns xs xss (rootZ (xss.map leafZ)) s6 s7 s8 s9 s10 s11 s12 s13 s14 s15) = .ok .nx (Sta ns ys xss (rootZ (xss.map leafZ)) s6 s7 t8 t9 t10 t11 t12 t13 t14 t15) := by
  have m0 : 0 < (xss.length : Int) := by omega
  obtain ⟨i, ei, li⟩ := tk_nat (xs := xs) m0
  have t1 := take' (xs := xs) m0
  rw [ei] at t1
  have li' : i < xss.length := by omega
  obtain ⟨ps, hp, e1, e2, e3⟩ := proof_both 11 xss i (by omega) (by omega) li' (by omega) hx
  have g := e3 []
  rw [List.append_nil] at g
  have gx : xss.getD i [] = xss[i] := by simp [List.getD, li']
  rw [gx] at g
  have tt := takes_true li' (hx _ (List.getElem_mem li')) g
  have sm : F__law_same 4 [.fz (Lst ps), .fz (Lst ps)] = .ok (.bl true) [.fz (Lst ps), .fz (Lst ps)] := same_ok (n := 4) (flat_ints (n := 2) (ns := ps) (by have := sizeLine_big; omega))
  obtain ⟨ys, t10, t11, t12, t13, t14, t15, e4⟩ := loop3 (ns := ns) (xs := tkR xs) (ps := ps) (xss := xss) (root := rootZ (xss.map leafZ)) (i := i) (s6 := s6) (s7 := s7) (s10 := s10) (s11 := s11) (s12 := s12) (s13 := s13) (s14 := s14) (s15 := s15) hl hl2 hx (by omega) li'
  have a1 := itm_at li'
  refine ⟨ys, .fz (.int i), .fz (Lst ps), t10, t11, t12, t13, t14, t15, ?_⟩
  have r3 := fun s => rg1N 3 s (by omega)
  unfold Sta at e4 ⊢
  generalize rootZ (xss.map leafZ) = root at e4 tt g e3 ⊢
  generalize tkR xs = x1 at t1 e4
  have f1 : mSet 8 (mFn1 F__law_take 1 (m1Here 1 (mCons (mV 2) mNil))) [.fz (.rls (ns.map .int)), .ow (.lst (xs.map .int)), .fz (.int xss.length), .fz (Itm xss), .fz (Lst (xss.map leafZ)), .fz (.int root), s6, s7, s8, s9, s10, s11, s12, s13, s14, s15, .no, .no, .no] = .ok .nx [.fz (.rls (ns.map .int)), .ow (.lst (x1.map .int)), .fz (.int xss.length), .fz (Itm xss), .fz (Lst (xss.map leafZ)), .fz (.int root), s6, s7, .fz (.int i), s9, s10, s11, s12, s13, s14, s15, .no, .no, .no] := by
    generalize Sl.fz (Lst (List.map leafZ xss)) = s4
    simp [t1]
  have f2 : mSet 9 (mFn0 (F_item_proof 12) (mCons (mV 3) (mCons (mV 8) mNil))) [.fz (.rls (ns.map .int)), .ow (.lst (x1.map .int)), .fz (.int xss.length), .fz (Itm xss), .fz (Lst (xss.map leafZ)), .fz (.int root), s6, s7, .fz (.int i), s9, s10, s11, s12, s13, s14, s15, .no, .no, .no] = .ok .nx [.fz (.rls (ns.map .int)), .ow (.lst (x1.map .int)), .fz (.int xss.length), .fz (Itm xss), .fz (Lst (xss.map leafZ)), .fz (.int root), s6, s7, .fz (.int i), .fz (Lst ps), s10, s11, s12, s13, s14, s15, .no, .no, .no] := by
    generalize Sl.fz (Lst (List.map leafZ xss)) = s4
    simp [e1]
  unfold L_law_2
  rw [seq_nx f1, seq_nx f2]
  generalize hS4 : Lst (List.map leafZ xss) = S4 at e2 e4 ⊢
  generalize hPs : Lst ps = Ps at e2 e4 tt sm ⊢
  generalize hXi : Lst xss[i] = Xi at tt a1
  have f3 : ∀ (s : S), s = [.fz (.rls (ns.map .int)), .ow (.lst (x1.map .int)), .fz (.int xss.length), .fz (Itm xss), .fz S4, .fz (.int root), s6, s7, .fz (.int i), .fz Ps, s10, s11, s12, s13, s14, s15, .no, .no, .no] → (mIf (mOr (mNot (mTru (asP (mFn0 (F__law_same 4) (mCons (mV 9) (mCons (mFn0 (F__law_proof 12) (mCons (mV 4) (mCons (mV 8) mNil))) mNil)))))) (mB (m2 oIsN (asP (mFn0 F_takes_item (mCons (mV 5) (mCons (mV 2) (mCons (mV 8) (mCons (m2 oIx (pS 3) (pS 8)) (mCons (mV 9) mNil))))))) (asP (mC (.bl true)))))) (mSeq (mRet (mC (.bl false))) mNx) mNx) s = .ok .nx s := fun s es => by
    subst es
    simp [e2, sm, a1, tt]
  rw [seq_nx (f3 _ rfl)]
  simp [r3, e4]

theorem loop4 {ns xs : List Int} {xss : List (List Int)} {s6 s7 s8 s9 s10 s11 s12 s13 s14 s15 : Sl} (hl : 1 ≤ xss.length) (hl2 : xss.length ≤ 100) (hx : ∀ x ∈ xss, x.length < 1000000) :
    ∃ ys t7 t8 t9 t10 t11 t12 t13 t14 t15, forGo (tgN 7) L_law_2 (rangeD 0 4) (Sta ns xs xss (rootZ (xss.map leafZ)) s6 s7 s8 s9 s10 s11 s12 s13 s14 s15) = .ok .nx (Sta ns ys xss (rootZ (xss.map leafZ)) s6 t7 t8 t9 t10 t11 t12 t13 t14 t15) := by
  obtain ⟨s', e, ys, t7, t8, t9, t10, t11, t12, t13, t14, t15, es⟩ := forGo_inv (st := tgN 7) (body := L_law_2) (ds := rangeD 0 4) (s := Sta ns xs xss (rootZ (xss.map leafZ)) s6 s7 s8 s9 s10 s11 s12 s13 s14 s15) (fun _ s => ∃ ys t7 t8 t9 t10 t11 t12 t13 t14 t15, s = Sta ns ys xss (rootZ (xss.map leafZ)) s6 t7 t8 t9 t10 t11 t12 t13 t14 t15)
    ⟨xs, s7, s8, s9, s10, s11, s12, s13, s14, s15, rfl⟩ (fun j d s hd ⟨ys, t7, t8, t9, t10, t11, t12, t13, t14, t15, es⟩ => by
      subst es
      obtain ⟨zs, u8, u9, u10, u11, u12, u13, u14, u15, e⟩ := turn2_ok (ns := ns) (xs := ys) (s6 := s6) (s7 := .fz d) (s8 := t8) (s9 := t9) (s10 := t10) (s11 := t11) (s12 := t12) (s13 := t13) (s14 := t14) (s15 := t15) hl hl2 hx
      exact ⟨_, _, rfl, .inl e, zs, .fz d, u8, u9, u10, u11, u12, u13, u14, u15, rfl⟩)
  exact ⟨ys, t7, t8, t9, t10, t11, t12, t13, t14, t15, by rw [e, es]⟩
/-! ### the items -/
theorem octets_ok {A M : Sl} {xs : List Int} {s17 s18 : Sl} {n : Nat} {b : List Sl} :
    ∃ ys oct : List Int, lcGo [10] (tgN 10) mYes L_law_4 (rangeD 0 n) [A, .ow (.lst (xs.map .int)), M, .no, .no, .no, .no, .no, .no, .no, .no, .no, .no, .no, .no, .no, .no, s17, s18] = .ok (oct.map .int) [A, .ow (.lst (ys.map .int)), M, .no, .no, .no, .no, .no, .no, .no, .no, .no, .no, .no, .no, .no, .no, s17, s18] ∧ oct.length = n := by
  obtain ⟨zs, s', e, ys, oct, es, eo, hl⟩ := lcGo_inv (vs := [10]) (st := tgN 10) (e := L_law_4) (ds := rangeD 0 n) (s := [A, .ow (.lst (xs.map .int)), M, .no, .no, .no, .no, .no, .no, .no, .no, .no, .no, .no, .no, .no, .no, s17, s18])
    (fun i zs s => ∃ ys oct : List Int, s = [A, .ow (.lst (ys.map .int)), M, .no, .no, .no, .no, .no, .no, .no, .no, .no, .no, .no, .no, .no, .no, s17, s18] ∧ zs = oct.map .int ∧ oct.length = i) ⟨xs, [], rfl, rfl, rfl⟩
    (fun i d zs s hd ⟨ys, oct, es, eo, hl⟩ => by
      subst es; subst eo
      have t := take' (xs := ys) (n := 256) (by omega)
      exact ⟨[A, .ow (.lst (ys.map .int)), M, .no, .no, .no, .no, .no, .no, .no, .fz d, .no, .no, .no, .no, .no, .no, s17, s18], [A, .ow (.lst ((tkR ys).map .int)), M, .no, .no, .no, .no, .no, .no, .no, .fz d, .no, .no, .no, .no, .no, .no, s17, s18], .int (tkV ys 256), by simp, by simp [L_law_4, t], tkR ys, oct ++ [tkV ys 256], by simp, by simp, by simp [hl]⟩)
  exact ⟨ys, oct, by rw [e, es, eo], by rw [hl, rangeD_len]⟩
theorem items_ok {A M : Sl} {xs : List Int} {n : Nat} :
    ∃ (ys : List Int) (xss : List (List Int)), lcGo [17] (tgN 17) mYes L_law_5 (rangeD 0 n) [A, .ow (.lst (xs.map .int)), M, .no, .no, .no, .no, .no, .no, .no, .no, .no, .no, .no, .no, .no, .no, .no, .no] = .ok (xss.map Lst) [A, .ow (.lst (ys.map .int)), M, .no, .no, .no, .no, .no, .no, .no, .no, .no, .no, .no, .no, .no, .no, .no, .no] ∧ xss.length = n ∧ ∀ x ∈ xss, x.length < 1000000 := by
  obtain ⟨zs, s', e, ys, xss, es, eo, hl, hx⟩ := lcGo_inv (vs := [17]) (st := tgN 17) (e := L_law_5) (ds := rangeD 0 n) (s := [A, .ow (.lst (xs.map .int)), M, .no, .no, .no, .no, .no, .no, .no, .no, .no, .no, .no, .no, .no, .no, .no, .no])
    (fun i zs s => ∃ (ys : List Int) (xss : List (List Int)), s = [A, .ow (.lst (ys.map .int)), M, .no, .no, .no, .no, .no, .no, .no, .no, .no, .no, .no, .no, .no, .no, .no, .no] ∧ zs = xss.map Lst ∧ xss.length = i ∧ ∀ x ∈ xss, x.length < 1000000) ⟨xs, [], rfl, rfl, rfl, fun x hx => nomatch hx⟩
    (fun i d zs s hd ⟨ys, xss, es, eo, hl, hx⟩ => by
      subst es; subst eo
      obtain ⟨k, ek, lk⟩ := tk_nat (xs := ys) (n := 4) (by omega)
      have t := take' (xs := ys) (n := 4) (by omega)
      rw [ek] at t
      obtain ⟨y2, oct, e2, l2⟩ := octets_ok (A := A) (M := M) (xs := tkR ys) (s17 := .fz d) (s18 := .no) (n := k) (b := [])
      have rk := fun s => rg1n (n := k) s (by omega)
      have big := sizeLine_big
      have le : ∀ s : S, lcEnd (oct.map .int) s = .ok (.lst (oct.map .int)) s := fun s => lcEnd_of (by simp; omega)
      refine ⟨[A, .ow (.lst (ys.map .int)), M, .no, .no, .no, .no, .no, .no, .no, .no, .no, .no, .no, .no, .no, .no, .fz d, .no], [A, .ow (.lst (y2.map .int)), M, .no, .no, .no, .no, .no, .no, .no, .no, .no, .no, .no, .no, .no, .no, .fz d, .no], Lst oct, by simp, by simp [L_law_5, t, rk, e2, le], y2, xss ++ [oct], by simp, by simp, by simp [hl], fun x h => ?_⟩
      rcases List.mem_append.mp h with h | h
      · exact hx x h
      · have : x = oct := by simpa using h
        subst this
        omega)
  exact ⟨ys, xss, by rw [e, es, eo], by rw [hl, rangeD_len], hx⟩
theorem sums_ok {s0 s1 s2 s3 s4 s5 s6 s7 s8 s9 s10 s11 s12 s13 s14 s15 s16 s17 s18 : Sl} : ∀ (xss : List (List Int)), (∀ x ∈ xss, x.length < 1000000) →
    lcGo [18] (tgN 18) mYes L_law_3 (xss.map Lst) [s0, s1, s2, s3, s4, s5, s6, s7, s8, s9, s10, s11, s12, s13, s14, s15, s16, s17, .no] = .ok ((xss.map leafZ).map .int) [s0, s1, s2, s3, s4, s5, s6, s7, s8, s9, s10, s11, s12, s13, s14, s15, s16, s17, .no]
  | [], _ => lcGo_nil
  | x :: xss, hx => by
    have ih := sums_ok (s0 := s0) (s1 := s1) (s2 := s2) (s3 := s3) (s4 := s4) (s5 := s5) (s6 := s6) (s7 := s7) (s8 := s8) (s9 := s9) (s10 := s10) (s11 := s11) (s12 := s12) (s13 := s13) (s14 := s14) (s15 := s15) (s16 := s16) (s17 := s17) (s18 := s18) xss fun y hy => hx y (List.mem_cons_of_mem _ hy)
    have e1 : L_law_3 [s0, s1, s2, s3, s4, s5, s6, s7, s8, s9, s10, s11, s12, s13, s14, s15, s16, s17, .fz (Lst x)] = .ok (.int (leafZ x)) [s0, s1, s2, s3, s4, s5, s6, s7, s8, s9, s10, s11, s12, s13, s14, s15, s16, s17, .fz (Lst x)] := by
      simp [L_law_3, lleaf_ok (hx x List.mem_cons_self)]
    rw [List.map_cons, lcGo_cons (s1 := [s0, s1, s2, s3, s4, s5, s6, s7, s8, s9, s10, s11, s12, s13, s14, s15, s16, s17, .fz (Lst x)]) (by simp), e1]
    generalize hz : (xss.map leafZ).map D.int = zs at ih
    simp only [R.nox_okE, R.bind_okX, kLE_e, v_wipe1, v_wipe0, List.set_cons_succ, List.set_cons_zero, ih, kLE2_e, List.map_cons, hz]

/-! ### the law -/
theorem law_ok (ns : List Int) : ∃ s, F_law [.fz (.rls (ns.map .int))] = .ok (.bl true) s := by
  have big := sizeLine_big
  obtain ⟨xs, ed⟩ := draws_ok (ns := ns) (c := 400) (by omega) (by omega)
  suffices h : ∃ s, B_law ([.fz (.rls (ns.map .int))] ++ List.replicate 18 .no) = .ok (.rt (.bl true)) s by
    obtain ⟨s, e⟩ := h
    exact ⟨_, mFun_rt rfl e⟩
  -- how many
  obtain ⟨x1, n, hn1, hn2, en⟩ : ∃ (x1 : List Int) (n : Nat), 1 ≤ n ∧ n ≤ 100 ∧ (m2 oAdd (asP (mC (.int 1))) (asP (mFn1 F__law_take 1 (m1Here 1 (mCons (mIf (mB (m2 oEq (asP (mFn1 F__law_take 1 (m1Here 1 (mCons (mC (.int 6)) mNil)))) (asP (mC (.int 0))))) (mC (.int 90)) (mC (.int 20))) mNil))))) [.fz (.rls (ns.map .int)), .ow (.lst (xs.map .int)), .no, .no, .no, .no, .no, .no, .no, .no, .no, .no, .no, .no, .no, .no, .no, .no, .no] = .ok (.int n) [.fz (.rls (ns.map .int)), .ow (.lst (x1.map .int)), .no, .no, .no, .no, .no, .no, .no, .no, .no, .no, .no, .no, .no, .no, .no, .no, .no] := by
    have t6 := take' (xs := xs) (n := 6) (by omega)
    by_cases h6 : tkV xs 6 = 0
    · obtain ⟨k, ek, lk⟩ := tk_nat (xs := tkR xs) (n := 90) (by omega)
      have t90 := take' (xs := tkR xs) (n := 90) (by omega)
      rw [ek] at t90
      rw [h6] at t6
      refine ⟨tkR (tkR xs), 1 + k, by omega, by omega, ?_⟩
      simp [t6, t90]
    · obtain ⟨k, ek, lk⟩ := tk_nat (xs := tkR xs) (n := 20) (by omega)
      have t20 := take' (xs := tkR xs) (n := 20) (by omega)
      rw [ek] at t20
      refine ⟨tkR (tkR xs), 1 + k, by omega, by omega, ?_⟩
      simp [t6, h6, t20]
  obtain ⟨x2, xss, ei, hlen, hx⟩ := items_ok (A := .fz (.rls (ns.map .int))) (M := .fz (.int n)) (xs := x1) (n := n)
  subst hlen
  have m0 : 0 < (xss.length : Int) := by omega
  obtain ⟨i, eq, li⟩ := tk_nat (xs := x2) m0
  have ti := take' (xs := x2) m0
  rw [eq] at ti
  have li' : i < xss.length := by omega
  have es := sums_ok (s0 := .fz (.rls (ns.map .int))) (s1 := .ow (.lst (x2.map .int))) (s2 := .fz (.int xss.length)) (s3 := .fz (Itm xss)) (s4 := .no) (s5 := .no) (s6 := .no) (s7 := .no) (s8 := .no) (s9 := .no) (s10 := .no) (s11 := .no) (s12 := .no) (s13 := .no) (s14 := .no) (s15 := .no) (s16 := .no) (s17 := .no) (s18 := .no) xss hx
  obtain ⟨er, er2⟩ := root_is 11 xss (by omega) hn1 (by omega) hx
  obtain ⟨x, rest, hcons⟩ : ∃ x rest, xss = x :: rest := by
    cases xss with
    | nil => simp at hn1
    | cons x r => exact ⟨x, r, rfl⟩
  have hx0 : x.length < 1000000 := hx x (by rw [hcons]; simp)
  have a0 : atI (xss.map Lst) 0 = some (Lst x) := by rw [hcons]; exact at0 _ _
  have b0 : atI ((xss.map leafZ).map D.int) 0 = some (.int (leafZ x)) := by rw [hcons]; exact at0 _ _
  have bi : atI ((xss.map leafZ).map D.int) (i : Int) = some (.int (leafZ xss[i])) := by
    have := lst_at (xs := xss.map leafZ) (i := i) (by simpa using li')
    simpa using this
  obtain ⟨x3, t7, t8, t9, t10, t11, t12, t13, t14, t15, el⟩ := loop4 (ns := ns) (xs := tkR x2) (xss := xss) (s6 := .fz (.int (leafZ xss[i]))) (s7 := .no) (s8 := .no) (s9 := .no) (s10 := .no) (s11 := .no) (s12 := .no) (s13 := .no) (s14 := .no) (s15 := .no) hn1 hn2 hx
  have rn := fun s => rg1n (n := xss.length) s (by omega)
  have r4 := fun s => rg1N 4 s (by omega)
  have le1 : ∀ s : S, lcEnd (xss.map Lst) s = .ok (.lst (xss.map Lst)) s := fun s => lcEnd_of (by simp; omega)
  have le2 : ∀ s : S, lcEnd ((xss.map leafZ).map .int) s = .ok (.lst ((xss.map leafZ).map .int)) s := fun s => lcEnd_of (by simp; omega)
  have px1 := proof_ex (n := 11) (xss := xss) (i := (xss.length : Int)) (by omega)
  have px2 := proof_ex (n := 11) (xss := xss) (i := -1) (by omega)
  have px3 := proof_ex (n := 11) (xss := []) (i := 0) (by simp)
  have rx := root_ex (n := 11)
  have sumx := sum_ok x
  have lsumx := lsum_ok x
  have lf := leaf_ok hx0
  have tz : ∀ root : Int, F_takes_item [.fz (.int root), .fz (.int 0), .fz (.int 0), .fz (.lst []), .fz (.lst [])] = .ok (.bl false) [.fz (.int root), .fz (.int 0), .fz (.int 0), .fz (.lst []), .fz (.lst [])] := fun root => mFun_rt rfl (s := [.fz (.int root), .fz (.int 0), .fz (.int 0), .fz (.lst []), .fz (.lst [])]) (by simp [B_takes_item])
  have si := fun k : Int => same_ok (n := 4) (D.Flat.int k)
  unfold Sta at el
  generalize rootZ (xss.map leafZ) = root at er er2 el
  generalize hS4 : Lst (xss.map leafZ) = S4 at er2 el
  generalize tkR x2 = x2' at ti el
  have g1 : mSetO 1 (mFnO F__law_draws (mCons (mV 0) (mCons (mC (.int 400)) mNil))) ([.fz (.rls (ns.map .int))] ++ List.replicate 18 .no) = .ok .nx [.fz (.rls (ns.map .int)), .ow (.lst (xs.map .int)), .no, .no, .no, .no, .no, .no, .no, .no, .no, .no, .no, .no, .no, .no, .no, .no, .no] := by
    simp [ed]
  have g2 : mSet 2 (m2 oAdd (asP (mC (.int 1))) (asP (mFn1 F__law_take 1 (m1Here 1 (mCons (mIf (mB (m2 oEq (asP (mFn1 F__law_take 1 (m1Here 1 (mCons (mC (.int 6)) mNil)))) (asP (mC (.int 0))))) (mC (.int 90)) (mC (.int 20))) mNil))))) [.fz (.rls (ns.map .int)), .ow (.lst (xs.map .int)), .no, .no, .no, .no, .no, .no, .no, .no, .no, .no, .no, .no, .no, .no, .no, .no, .no] = .ok .nx [.fz (.rls (ns.map .int)), .ow (.lst (x1.map .int)), .fz (.int xss.length), .no, .no, .no, .no, .no, .no, .no, .no, .no, .no, .no, .no, .no, .no, .no, .no] := by
    rw [e_mSet, en]
    rfl
  have g3 : mSet 3 (asD (mLc [17] (mRange1 (mCons (mV 2) mNil)) (tgN 17) mYes L_law_5)) [.fz (.rls (ns.map .int)), .ow (.lst (x1.map .int)), .fz (.int xss.length), .no, .no, .no, .no, .no, .no, .no, .no, .no, .no, .no, .no, .no, .no, .no, .no] = .ok .nx [.fz (.rls (ns.map .int)), .ow (.lst (x2.map .int)), .fz (.int xss.length), .fz (Itm xss), .no, .no, .no, .no, .no, .no, .no, .no, .no, .no, .no, .no, .no, .no, .no] := by
    simp [rn, ei, le1]
  have g4 : mSet 4 (asD (mLc [18] (mItems (mV 3)) (tgN 18) mYes L_law_3)) [.fz (.rls (ns.map .int)), .ow (.lst (x2.map .int)), .fz (.int xss.length), .fz (Itm xss), .no, .no, .no, .no, .no, .no, .no, .no, .no, .no, .no, .no, .no, .no, .no] = .ok .nx [.fz (.rls (ns.map .int)), .ow (.lst (x2.map .int)), .fz (.int xss.length), .fz (Itm xss), .fz S4, .no, .no, .no, .no, .no, .no, .no, .no, .no, .no, .no, .no, .no, .no] := by
    rw [← hS4, show Lst (xss.map leafZ) = .lst ((xss.map leafZ).map D.int) from rfl]
    generalize (xss.map leafZ).map D.int = zs at es le2 ⊢
    simp [es, le2]
  unfold B_law
  rw [seq_nx g1, seq_nx g2, seq_nx g3, seq_nx g4]
  have b0' : oIx S4 (.int 0) = some (.int (leafZ x)) := by rw [← hS4]; exact b0
  have bi' : oIx S4 (.int i) = some (.int (leafZ xss[i])) := by rw [← hS4]; exact bi
  have g5 : mSet 5 (mFn0 (F__law_root 12) (mCons (mV 4) mNil)) [.fz (.rls (ns.map .int)), .ow (.lst (x2.map .int)), .fz (.int xss.length), .fz (Itm xss), .fz S4, .no, .no, .no, .no, .no, .no, .no, .no, .no, .no, .no, .no, .no, .no] = .ok .nx [.fz (.rls (ns.map .int)), .ow (.lst (x2.map .int)), .fz (.int xss.length), .fz (Itm xss), .fz S4, .fz (.int root), .no, .no, .no, .no, .no, .no, .no, .no, .no, .no, .no, .no, .no] := by
    simp [er2]
  rw [seq_nx g5]
  rw [seq_nx (s1 := [.fz (.rls (ns.map .int)), .ow (.lst (x2.map .int)), .fz (.int xss.length), .fz (Itm xss), .fz S4, .fz (.int root), .no, .no, .no, .no, .no, .no, .no, .no, .no, .no, .no, .no, .no]) (by simp [er, si, a0, b0', sumx, lsumx, lf])]
  rw [seq_nx (s1 := [.fz (.rls (ns.map .int)), .ow (.lst (x2'.map .int)), .fz (.int xss.length), .fz (Itm xss), .fz S4, .fz (.int root), .fz (.int (leafZ xss[i])), .no, .no, .no, .no, .no, .no, .no, .no, .no, .no, .no, .no]) (by simp [ti, bi'])]
  rw [seq_nx (s1 := [.fz (.rls (ns.map .int)), .ow (.lst (x2'.map .int)), .fz (.int xss.length), .fz (Itm xss), .fz S4, .fz (.int root), .fz (.int (leafZ xss[i])), .no, .no, .no, .no, .no, .no, .no, .no, .no, .no, .no, .no]) (by simp [joint_ok, ljoint_ok, si])]
  rw [seq_nx (s1 := [.fz (.rls (ns.map .int)), .ow (.lst (x3.map .int)), .fz (.int xss.length), .fz (Itm xss), .fz S4, .fz (.int root), .fz (.int (leafZ xss[i])), t7, t8, t9, t10, t11, t12, t13, t14, t15, .no, .no, .no]) (by simp [r4, el])]
  have px3' : F_item_proof 12 [.fz (.lst []), .fz (.int 0)] = .ex "InvalidProof" .non [.fz (.lst []), .fz (.int 0)] := px3
  rw [seq_nx (s1 := [.fz (.rls (ns.map .int)), .ow (.lst (x3.map .int)), .fz (.int xss.length), .fz (Itm xss), .fz S4, .fz (.int root), .fz (.int (leafZ xss[i])), t7, t8, t9, t10, t11, t12, t13, t14, t15, .no, .no, .no]) (by
    simp [mRefs, mRef, subOf, rx, px1, px2, px3'])]
  exact ⟨[.fz (.rls (ns.map .int)), .ow (.lst (x3.map .int)), .fz (.int xss.length), .fz (Itm xss), .fz S4, .fz (.int root), .fz (.int (leafZ xss[i])), t7, t8, t9, t10, t11, t12, t13, t14, t15, .no, .no, .no], by simp [tz]⟩
theorem pure_law : ∀ ns : List Int, ns.length ≤ 63 → (∀ z ∈ ns, Builtin.Int.intBits z ≤ 1048576) → ∃ s, F_law [.fz (.rls (ns.map .int))] = .ok (.bl true) s := fun ns _ _ => law_ok ns
end Mv

set_option Elab.async false
set_option linter.all false
set_option maxRecDepth 100000
set_option maxHeartbeats 4000000
namespace Mv
open PySem PySem.Spec PyProof.Rows L2
theorem all_mk {P : Program} {w : World} {K : PySem.W.Frag} {h : Heap} {mg : Str → Option Value} {fa : Addr} (X : K.In h) (G : h.Ns mainGlobals mg) (hfa : mg "law" = some (.ref fa)) (own : LamX.OwnTab K fa h)
    {f0 : Addr} {od0 an0 : Option Addr} {sl0 : Array (Option Value)} {oc0 kV0 dc0 pm0 ct0 : Value} {cd0 : Value} (a0 : PySem.W.nsIn K mainGlobals "sum_of" = some (some (.ref f0)))
    (l0 : K.lookup f0 = some ⟨oc0, od0, .func (PySem.W.fnOf "sum_of" "sum_of" (defArgs s_sum_of) (defBody s_sum_of) (defScope s_sum_of) .none kV0 dc0 pm0 an0 cd0 ct0), sl0⟩)
    (c0 : PySem.W.codeIn K cd0 "sum_of" = true)
    (k0 : PySem.W.keepIn K (.ref f0) = true)
    {f1 : Addr} {od1 an1 : Option Addr} {sl1 : Array (Option Value)} {oc1 kV1 dc1 pm1 ct1 : Value} {cd1 : Value} (a1 : PySem.W.nsIn K mainGlobals "leaf_sum" = some (some (.ref f1)))
    (l1 : K.lookup f1 = some ⟨oc1, od1, .func (PySem.W.fnOf "leaf_sum" "leaf_sum" (defArgs s_leaf_sum) (defBody s_leaf_sum) (defScope s_leaf_sum) .none kV1 dc1 pm1 an1 cd1 ct1), sl1⟩)
    (c1 : PySem.W.codeIn K cd1 "leaf_sum" = true)
    (k1 : PySem.W.keepIn K (.ref f1) = true)
    {f2 : Addr} {od2 an2 : Option Addr} {sl2 : Array (Option Value)} {oc2 kV2 dc2 pm2 ct2 : Value} {cd2 : Value} (a2 : PySem.W.nsIn K mainGlobals "joint_sum" = some (some (.ref f2)))
    (l2 : K.lookup f2 = some ⟨oc2, od2, .func (PySem.W.fnOf "joint_sum" "joint_sum" (defArgs s_joint_sum) (defBody s_joint_sum) (defScope s_joint_sum) .none kV2 dc2 pm2 an2 cd2 ct2), sl2⟩)
    (c2 : PySem.W.codeIn K cd2 "joint_sum" = true)
    (k2 : PySem.W.keepIn K (.ref f2) = true)
    {f3 : Addr} {od3 an3 : Option Addr} {sl3 : Array (Option Value)} {oc3 kV3 dc3 pm3 ct3 : Value} {cd3 : Value} (a3 : PySem.W.nsIn K mainGlobals "cut_of" = some (some (.ref f3)))
    (l3 : K.lookup f3 = some ⟨oc3, od3, .func (PySem.W.fnOf "cut_of" "cut_of" (defArgs s_cut_of) (defBody s_cut_of) (defScope s_cut_of) .none kV3 dc3 pm3 an3 cd3 ct3), sl3⟩)
    (c3 : PySem.W.codeIn K cd3 "cut_of" = true)
    (k3 : PySem.W.keepIn K (.ref f3) = true)
    {f4 : Addr} {od4 an4 : Option Addr} {sl4 : Array (Option Value)} {oc4 kV4 dc4 pm4 ct4 : Value} {cd4 : Value} (a4 : PySem.W.nsIn K mainGlobals "root_of" = some (some (.ref f4)))
    (l4 : K.lookup f4 = some ⟨oc4, od4, .func (PySem.W.fnOf "root_of" "root_of" (defArgs s_root_of) (defBody s_root_of) (defScope s_root_of) .none kV4 dc4 pm4 an4 cd4 ct4), sl4⟩)
    (c4 : PySem.W.codeIn K cd4 "root_of" = true)
    (k4 : PySem.W.keepIn K (.ref f4) = true)
    {f5 : Addr} {od5 an5 : Option Addr} {sl5 : Array (Option Value)} {oc5 kV5 dc5 pm5 ct5 : Value} {cd5 : Value} (a5 : PySem.W.nsIn K mainGlobals "item_proof" = some (some (.ref f5)))
    (l5 : K.lookup f5 = some ⟨oc5, od5, .func (PySem.W.fnOf "item_proof" "item_proof" (defArgs s_item_proof) (defBody s_item_proof) (defScope s_item_proof) .none kV5 dc5 pm5 an5 cd5 ct5), sl5⟩)
    (c5 : PySem.W.codeIn K cd5 "item_proof" = true)
    (k5 : PySem.W.keepIn K (.ref f5) = true)
    {f6 : Addr} {od6 an6 : Option Addr} {sl6 : Array (Option Value)} {oc6 kV6 dc6 pm6 ct6 : Value} {cd6 : Value} (a6 : PySem.W.nsIn K mainGlobals "climbed" = some (some (.ref f6)))
    (l6 : K.lookup f6 = some ⟨oc6, od6, .func (PySem.W.fnOf "climbed" "climbed" (defArgs s_climbed) (defBody s_climbed) (defScope s_climbed) .none kV6 dc6 pm6 an6 cd6 ct6), sl6⟩)
    (c6 : PySem.W.codeIn K cd6 "climbed" = true)
    (k6 : PySem.W.keepIn K (.ref f6) = true)
    {f7 : Addr} {od7 an7 : Option Addr} {sl7 : Array (Option Value)} {oc7 kV7 dc7 pm7 ct7 : Value} {cd7 : Value} (a7 : PySem.W.nsIn K mainGlobals "takes_item" = some (some (.ref f7)))
    (l7 : K.lookup f7 = some ⟨oc7, od7, .func (PySem.W.fnOf "takes_item" "takes_item" (defArgs s_takes_item) (defBody s_takes_item) (defScope s_takes_item) .none kV7 dc7 pm7 an7 cd7 ct7), sl7⟩)
    (c7 : PySem.W.codeIn K cd7 "takes_item" = true)
    (k7 : PySem.W.keepIn K (.ref f7) = true)
    {f8 : Addr} {od8 an8 : Option Addr} {sl8 : Array (Option Value)} {oc8 kV8 dc8 pm8 ct8 : Value} {cd8 : Value} (a8 : PySem.W.nsIn K mainGlobals "_law_draws" = some (some (.ref f8)))
    (l8 : K.lookup f8 = some ⟨oc8, od8, .func (PySem.W.fnOf "_law_draws" "_law_draws" (defArgs s__law_draws) (defBody s__law_draws) (defScope s__law_draws) .none kV8 dc8 pm8 an8 cd8 ct8), sl8⟩)
    (c8 : PySem.W.codeIn K cd8 "_law_draws" = true)
    (k8 : PySem.W.keepIn K (.ref f8) = true)
    {f9 : Addr} {od9 an9 : Option Addr} {sl9 : Array (Option Value)} {oc9 kV9 dc9 pm9 ct9 : Value} {cd9 : Value} (a9 : PySem.W.nsIn K mainGlobals "_law_take" = some (some (.ref f9)))
    (l9 : K.lookup f9 = some ⟨oc9, od9, .func (PySem.W.fnOf "_law_take" "_law_take" (defArgs s__law_take) (defBody s__law_take) (defScope s__law_take) .none kV9 dc9 pm9 an9 cd9 ct9), sl9⟩)
    (c9 : PySem.W.codeIn K cd9 "_law_take" = true)
    (k9 : PySem.W.keepIn K (.ref f9) = true)
    {f10 : Addr} {od10 an10 : Option Addr} {sl10 : Array (Option Value)} {oc10 kV10 dc10 pm10 ct10 : Value} {cd10 : Value} (a10 : PySem.W.nsIn K mainGlobals "_law_same" = some (some (.ref f10)))
    (l10 : K.lookup f10 = some ⟨oc10, od10, .func (PySem.W.fnOf "_law_same" "_law_same" (defArgs s__law_same) (defBody s__law_same) (defScope s__law_same) .none kV10 dc10 pm10 an10 cd10 ct10), sl10⟩)
    (c10 : PySem.W.codeIn K cd10 "_law_same" = true)
    (k10 : PySem.W.keepIn K (.ref f10) = true)
    {f11 : Addr} {od11 an11 : Option Addr} {sl11 : Array (Option Value)} {oc11 kV11 dc11 pm11 ct11 : Value} {cd11 : Value} (a11 : PySem.W.nsIn K mainGlobals "_law_sum" = some (some (.ref f11)))
    (l11 : K.lookup f11 = some ⟨oc11, od11, .func (PySem.W.fnOf "_law_sum" "_law_sum" (defArgs s__law_sum) (defBody s__law_sum) (defScope s__law_sum) .none kV11 dc11 pm11 an11 cd11 ct11), sl11⟩)
    (c11 : PySem.W.codeIn K cd11 "_law_sum" = true)
    (k11 : PySem.W.keepIn K (.ref f11) = true)
    {f12 : Addr} {od12 an12 : Option Addr} {sl12 : Array (Option Value)} {oc12 kV12 dc12 pm12 ct12 : Value} {cd12 : Value} (a12 : PySem.W.nsIn K mainGlobals "_law_leaf" = some (some (.ref f12)))
    (l12 : K.lookup f12 = some ⟨oc12, od12, .func (PySem.W.fnOf "_law_leaf" "_law_leaf" (defArgs s__law_leaf) (defBody s__law_leaf) (defScope s__law_leaf) .none kV12 dc12 pm12 an12 cd12 ct12), sl12⟩)
    (c12 : PySem.W.codeIn K cd12 "_law_leaf" = true)
    (k12 : PySem.W.keepIn K (.ref f12) = true)
    {f13 : Addr} {od13 an13 : Option Addr} {sl13 : Array (Option Value)} {oc13 kV13 dc13 pm13 ct13 : Value} {cd13 : Value} (a13 : PySem.W.nsIn K mainGlobals "_law_joint" = some (some (.ref f13)))
    (l13 : K.lookup f13 = some ⟨oc13, od13, .func (PySem.W.fnOf "_law_joint" "_law_joint" (defArgs s__law_joint) (defBody s__law_joint) (defScope s__law_joint) .none kV13 dc13 pm13 an13 cd13 ct13), sl13⟩)
    (c13 : PySem.W.codeIn K cd13 "_law_joint" = true)
    (k13 : PySem.W.keepIn K (.ref f13) = true)
    {f14 : Addr} {od14 an14 : Option Addr} {sl14 : Array (Option Value)} {oc14 kV14 dc14 pm14 ct14 : Value} {cd14 : Value} (a14 : PySem.W.nsIn K mainGlobals "_law_cut" = some (some (.ref f14)))
    (l14 : K.lookup f14 = some ⟨oc14, od14, .func (PySem.W.fnOf "_law_cut" "_law_cut" (defArgs s__law_cut) (defBody s__law_cut) (defScope s__law_cut) .none kV14 dc14 pm14 an14 cd14 ct14), sl14⟩)
    (c14 : PySem.W.codeIn K cd14 "_law_cut" = true)
    (k14 : PySem.W.keepIn K (.ref f14) = true)
    {f15 : Addr} {od15 an15 : Option Addr} {sl15 : Array (Option Value)} {oc15 kV15 dc15 pm15 ct15 : Value} {cd15 : Value} (a15 : PySem.W.nsIn K mainGlobals "_law_root" = some (some (.ref f15)))
    (l15 : K.lookup f15 = some ⟨oc15, od15, .func (PySem.W.fnOf "_law_root" "_law_root" (defArgs s__law_root) (defBody s__law_root) (defScope s__law_root) .none kV15 dc15 pm15 an15 cd15 ct15), sl15⟩)
    (c15 : PySem.W.codeIn K cd15 "_law_root" = true)
    (k15 : PySem.W.keepIn K (.ref f15) = true)
    {f16 : Addr} {od16 an16 : Option Addr} {sl16 : Array (Option Value)} {oc16 kV16 dc16 pm16 ct16 : Value} {cd16 : Value} (a16 : PySem.W.nsIn K mainGlobals "_law_proof" = some (some (.ref f16)))
    (l16 : K.lookup f16 = some ⟨oc16, od16, .func (PySem.W.fnOf "_law_proof" "_law_proof" (defArgs s__law_proof) (defBody s__law_proof) (defScope s__law_proof) .none kV16 dc16 pm16 an16 cd16 ct16), sl16⟩)
    (c16 : PySem.W.codeIn K cd16 "_law_proof" = true)
    (k16 : PySem.W.keepIn K (.ref f16) = true)
    {f17 : Addr} {od17 an17 : Option Addr} {sl17 : Array (Option Value)} {oc17 kV17 dc17 pm17 ct17 : Value} {cd17 : Value} (a17 : PySem.W.nsIn K mainGlobals "_law_climb" = some (some (.ref f17)))
    (l17 : K.lookup f17 = some ⟨oc17, od17, .func (PySem.W.fnOf "_law_climb" "_law_climb" (defArgs s__law_climb) (defBody s__law_climb) (defScope s__law_climb) .none kV17 dc17 pm17 an17 cd17 ct17), sl17⟩)
    (c17 : PySem.W.codeIn K cd17 "_law_climb" = true)
    (k17 : PySem.W.keepIn K (.ref f17) = true)
    {f18 : Addr} {od18 an18 : Option Addr} {sl18 : Array (Option Value)} {oc18 kV18 dc18 pm18 ct18 : Value} {cd18 : Value} (a18 : PySem.W.nsIn K mainGlobals "_law_takes" = some (some (.ref f18)))
    (l18 : K.lookup f18 = some ⟨oc18, od18, .func (PySem.W.fnOf "_law_takes" "_law_takes" (defArgs s__law_takes) (defBody s__law_takes) (defScope s__law_takes) .none kV18 dc18 pm18 an18 cd18 ct18), sl18⟩)
    (c18 : PySem.W.codeIn K cd18 "_law_takes" = true)
    (k18 : PySem.W.keepIn K (.ref f18) = true)
    {f19 : Addr} {od19 an19 : Option Addr} {sl19 : Array (Option Value)} {oc19 kV19 dc19 pm19 ct19 : Value} {cd19 : Value} (a19 : PySem.W.nsIn K mainGlobals "_law_bent" = some (some (.ref f19)))
    (l19 : K.lookup f19 = some ⟨oc19, od19, .func (PySem.W.fnOf "_law_bent" "_law_bent" (defArgs s__law_bent) (defBody s__law_bent) (defScope s__law_bent) .none kV19 dc19 pm19 an19 cd19 ct19), sl19⟩)
    (c19 : PySem.W.codeIn K cd19 "_law_bent" = true)
    (k19 : PySem.W.keepIn K (.ref f19) = true)
    {f20 : Addr} {od20 an20 : Option Addr} {sl20 : Array (Option Value)} {oc20 kV20 dc20 pm20 ct20 : Value} {cL : Addr} (a20 : PySem.W.nsIn K mainGlobals "law" = some (some (.ref f20)))
    (l20 : K.lookup f20 = some ⟨oc20, od20, .func (PySem.W.fnOf "law" "law" (defArgs s_law) (defBody s_law) (defScope s_law) .none kV20 dc20 pm20 an20 (.ref cL) ct20), sl20⟩)
    (c20 : PySem.W.codeIn K (.ref cL) "law" = true)
    (k20 : PySem.W.keepIn K (.ref f20) = true)
    {f21 : Addr} {od21 an21 : Option Addr} {sl21 : Array (Option Value)} {oc21 kV21 dc21 pm21 ct21 : Value} {cd21 : Value} (a21 : PySem.W.nsIn K mainGlobals "_law_is_refused" = some (some (.ref f21)))
    (l21 : K.lookup f21 = some ⟨oc21, od21, .func (PySem.W.fnOf "_law_is_refused" "_law_is_refused" (defArgs s__law_is_refused) (defBody s__law_is_refused) (defScope s__law_is_refused) .none kV21 dc21 pm21 an21 cd21 ct21), sl21⟩)
    (c21 : PySem.W.codeIn K cd21 "_law_is_refused" = true)
    (k21 : PySem.W.keepIn K (.ref f21) = true)
    {eL : Value} {dL : Option Addr} {vL : Array Value} {tL : Array (Option Value)} {PL : Addr} (Qlc : K.lookup cL = some ⟨eL, dL, .fields vL, tL⟩)
    (Qhv : vL[11]? = some (.ref PL))
    (QnP : K.lookup PL = none)
    (Qhc : PySem.W.codeHdIn K cL PL = true)
    {t_FACTOR : Tok} (n_FACTOR : PySem.W.nsIn K mainGlobals "FACTOR" = some (some (.int 263 t_FACTOR)))
    {t_MODULUS : Tok} (n_MODULUS : PySem.W.nsIn K mainGlobals "MODULUS" = some (some (.int 34359738337 t_MODULUS)))
    {t_FIRST : Tok} (n_FIRST : PySem.W.nsIn K mainGlobals "FIRST" = some (some (.int 7 t_FIRST)))
    {t_DIGITS : Tok} (n_DIGITS : PySem.W.nsIn K mainGlobals "DIGITS" = some (some (.int 5 t_DIGITS)))
    {C_InvalidProof : Addr} (a_InvalidProof : PySem.W.nsIn K mainGlobals "InvalidProof" = some (some (.ref C_InvalidProof)))
    (e_InvalidProof : PySem.W.excIn K C_InvalidProof [.type "ValueError", .type "Exception", .type "BaseException", .type "object"] "ValueError.__new__" = true)
    (p_InvalidProof : PySem.W.keepIn K (.ref C_InvalidProof) = true)
    (b_InvalidProof : PySem.W.subIn K (.ref C_InvalidProof) (.type "BaseException") = some true)
    (y_InvalidProof : PySem.W.typeIn K (.ref C_InvalidProof) = some (.type "type"))
    (i_InvalidProof : PySem.W.isClsIn K C_InvalidProof = true)
    (s_InvalidProof : PySem.W.subIn K (.ref C_InvalidProof) (.ref C_InvalidProof) = some true)
    (z_all : PySem.W.nsIn K mainGlobals "all" = some none)
    (z_bool : PySem.W.nsIn K mainGlobals "bool" = some none)
    (z_dict : PySem.W.nsIn K mainGlobals "dict" = some none)
    (z_int : PySem.W.nsIn K mainGlobals "int" = some none)
    (z_isinstance : PySem.W.nsIn K mainGlobals "isinstance" = some none)
    (z_len : PySem.W.nsIn K mainGlobals "len" = some none)
    (z_list : PySem.W.nsIn K mainGlobals "list" = some none)
    (z_range : PySem.W.nsIn K mainGlobals "range" = some none)
    (z_str : PySem.W.nsIn K mainGlobals "str" = some none)
    (z_tuple : PySem.W.nsIn K mainGlobals "tuple" = some none) :
    ∃ (fd : FuncData) (cs : List (Addr × Addr)) (T : List (Addr × Str)), (∀ p ∈ T, p.1 ∈ cs.map (·.2)) ∧ (∀ p ∈ cs, h.get? p.2 = some { cls := .none, data := .fields #[] }) ∧ (∀ p ∈ cs, K.lookup p.2 = none) ∧ (∀ p ∈ cs, PySem.W.CodeHd h p.1 p.2) ∧
        (∀ (s : Shared) (u : Value), BindsTo s fd ⟨[u], []⟩ [("script", u)]) ∧ ∀ base : Heap, K.In base → base.Ns mainGlobals mg → (∀ p ∈ cs, LamX.TabB base mg p.1 p.2) → FnOk P w K mg base (L2.CX P w) 29 fa fd ["script"] (spF ⟨K, mg, T⟩ 1 F_law) := by
  have e := hfa.symm.trans (PySem.W.mg_of X G a20)
  cases e
  have F0 := fun_mk (st := s_sum_of) l0 c0 k0
  have b0 := F0.binds (ps := ["octets"]) fun _ _ _ _ _ _ us hl => match us, hl with | [_], _ => rfl
  have F1 := fun_mk (st := s_leaf_sum) l1 c1 k1
  have b1 := F1.binds (ps := ["octets"]) fun _ _ _ _ _ _ us hl => match us, hl with | [_], _ => rfl
  have F2 := fun_mk (st := s_joint_sum) l2 c2 k2
  have b2 := F2.binds (ps := ["first", "second"]) fun _ _ _ _ _ _ us hl => match us, hl with | [_, _], _ => rfl
  have F3 := fun_mk (st := s_cut_of) l3 c3 k3
  have b3 := F3.binds (ps := ["count"]) fun _ _ _ _ _ _ us hl => match us, hl with | [_], _ => rfl
  have F4 := fun_mk (st := s_root_of) l4 c4 k4
  have b4 := F4.binds (ps := ["items"]) fun _ _ _ _ _ _ us hl => match us, hl with | [_], _ => rfl
  have F5 := fun_mk (st := s_item_proof) l5 c5 k5
  have b5 := F5.binds (ps := ["items", "index"]) fun _ _ _ _ _ _ us hl => match us, hl with | [_, _], _ => rfl
  have F6 := fun_mk (st := s_climbed) l6 c6 k6
  have b6 := F6.binds (ps := ["count", "index", "found", "proof"]) fun _ _ _ _ _ _ us hl => match us, hl with | [_, _, _, _], _ => rfl
  have F7 := fun_mk (st := s_takes_item) l7 c7 k7
  have b7 := F7.binds (ps := ["root", "count", "index", "octets", "proof"]) fun _ _ _ _ _ _ us hl => match us, hl with | [_, _, _, _, _], _ => rfl
  have F8 := fun_mk (st := s__law_draws) l8 c8 k8
  have b8 := F8.binds (ps := ["script", "count"]) fun _ _ _ _ _ _ us hl => match us, hl with | [_, _], _ => rfl
  have F9 := fun_mk (st := s__law_take) l9 c9 k9
  have b9 := F9.binds (ps := ["draws", "limit"]) fun _ _ _ _ _ _ us hl => match us, hl with | [_, _], _ => rfl
  have F10 := fun_mk (st := s__law_same) l10 c10 k10
  have b10 := F10.binds (ps := ["found", "due"]) fun _ _ _ _ _ _ us hl => match us, hl with | [_, _], _ => rfl
  have F11 := fun_mk (st := s__law_sum) l11 c11 k11
  have b11 := F11.binds (ps := ["octets"]) fun _ _ _ _ _ _ us hl => match us, hl with | [_], _ => rfl
  have F12 := fun_mk (st := s__law_leaf) l12 c12 k12
  have b12 := F12.binds (ps := ["octets"]) fun _ _ _ _ _ _ us hl => match us, hl with | [_], _ => rfl
  have F13 := fun_mk (st := s__law_joint) l13 c13 k13
  have b13 := F13.binds (ps := ["a", "b"]) fun _ _ _ _ _ _ us hl => match us, hl with | [_, _], _ => rfl
  have F14 := fun_mk (st := s__law_cut) l14 c14 k14
  have b14 := F14.binds (ps := ["count"]) fun _ _ _ _ _ _ us hl => match us, hl with | [_], _ => rfl
  have F15 := fun_mk (st := s__law_root) l15 c15 k15
  have b15 := F15.binds (ps := ["sums"]) fun _ _ _ _ _ _ us hl => match us, hl with | [_], _ => rfl
  have F16 := fun_mk (st := s__law_proof) l16 c16 k16
  have b16 := F16.binds (ps := ["sums", "index"]) fun _ _ _ _ _ _ us hl => match us, hl with | [_, _], _ => rfl
  have F17 := fun_mk (st := s__law_climb) l17 c17 k17
  have b17 := F17.binds (ps := ["count", "index", "mine", "proof"]) fun _ _ _ _ _ _ us hl => match us, hl with | [_, _, _, _], _ => rfl
  have F18 := fun_mk (st := s__law_takes) l18 c18 k18
  have b18 := F18.binds (ps := ["root", "count", "index", "octets", "proof"]) fun _ _ _ _ _ _ us hl => match us, hl with | [_, _, _, _, _], _ => rfl
  have F19 := fun_mk (st := s__law_bent) l19 c19 k19
  have b19 := F19.binds (ps := ["draws", "proof"]) fun _ _ _ _ _ _ us hl => match us, hl with | [_, _], _ => rfl
  have F20 : FunC K "law" "law" s_law fa _ cL := ⟨⟨_, _, _, _, _, _, _, _, rfl, l20, c20⟩⟩
  have F21 := fun_mk (st := s__law_is_refused) l21 c21 k21
  have b21 := F21.binds (ps := ["call"]) fun _ _ _ _ _ _ us hl => match us, hl with | [_], _ => rfl
  have E_InvalidProof : ExcIs K mg "InvalidProof" C_InvalidProof := ⟨PySem.W.mg_of X G a_InvalidProof, e_InvalidProof, p_InvalidProof, b_InvalidProof, y_InvalidProof⟩
  have hb : ∀ x ∈ (["all", "bool", "dict", "int", "isinstance", "len", "list", "range", "str", "tuple"] : List Str), mg x = none := by
    intro x hx
    simp only [List.mem_cons, List.not_mem_nil, or_false] at hx
    rcases hx with hx | hx | hx | hx | hx | hx | hx | hx | hx | hx
    · rw [hx]; exact PySem.W.mg_none_of X G z_all
    · rw [hx]; exact PySem.W.mg_none_of X G z_bool
    · rw [hx]; exact PySem.W.mg_none_of X G z_dict
    · rw [hx]; exact PySem.W.mg_none_of X G z_int
    · rw [hx]; exact PySem.W.mg_none_of X G z_isinstance
    · rw [hx]; exact PySem.W.mg_none_of X G z_len
    · rw [hx]; exact PySem.W.mg_none_of X G z_list
    · rw [hx]; exact PySem.W.mg_none_of X G z_range
    · rw [hx]; exact PySem.W.mg_none_of X G z_str
    · rw [hx]; exact PySem.W.mg_none_of X G z_tuple
  refine ⟨PySem.W.fnOf "law" "law" (defArgs s_law) (defBody s_law) (defScope s_law) .none kV20 dc20 pm20 an20 (.ref cL) ct20, [(cL, PL)], [(PL, ("law" : Str) ++ ".<locals>." ++ "<lambda>")], ?_, ?_, ?_, ?_, fun s v => .of_eq rfl, fun base _ _ TB => ?_⟩
  · intro p hp
    rw [List.mem_singleton.mp hp]
    exact List.mem_singleton.mpr rfl
  · intro p hp
    rw [List.mem_singleton.mp hp]
    exact own_tab own l20 rfl Qlc Qhv
  · intro p hp
    rw [List.mem_singleton.mp hp]
    exact QnP
  · intro p hp
    rw [List.mem_singleton.mp hp]
    exact PySem.W.codeHd_of_K X Qhc
  have D0 : Def P w K mg base [(PL, ("law" : Str) ++ ".<locals>." ++ "<lambda>")] "sum_of" ["octets"] 1 F_sum_of := ⟨_, _, PySem.W.mg_of X G a0, k0, b0, ok_sum_of F0 ⟨_, PySem.W.mg_of X G n_FACTOR⟩ ⟨_, PySem.W.mg_of X G n_MODULUS⟩ ⟨_, PySem.W.mg_of X G n_FIRST⟩⟩
  have D1 : Def P w K mg base [(PL, ("law" : Str) ++ ".<locals>." ++ "<lambda>")] "leaf_sum" ["octets"] 2 F_leaf_sum := ⟨_, _, PySem.W.mg_of X G a1, k1, b1, ok_leaf_sum F1 D0 hb (by decide)⟩
  have D2 : Def P w K mg base [(PL, ("law" : Str) ++ ".<locals>." ++ "<lambda>")] "joint_sum" ["first", "second"] 2 F_joint_sum := ⟨_, _, PySem.W.mg_of X G a2, k2, b2, ok_joint_sum F2 D0 hb (by decide) ⟨_, PySem.W.mg_of X G n_DIGITS⟩⟩
  have D3 : Def P w K mg base [(PL, ("law" : Str) ++ ".<locals>." ++ "<lambda>")] "cut_of" ["count"] 1 F_cut_of := ⟨_, _, PySem.W.mg_of X G a3, k3, b3, ok_cut_of F3⟩
  have D4 : Def P w K mg base [(PL, ("law" : Str) ++ ".<locals>." ++ "<lambda>")] "root_of" ["items"] 14 (F_root_of 12) := ⟨_, _, PySem.W.mg_of X G a4, k4, b4, ok_root_of F4 (PySem.W.mg_of X G a4) b4 D2 D3 D1 hb (by decide) ⟨_, E_InvalidProof⟩ 12⟩
  have D5 : Def P w K mg base [(PL, ("law" : Str) ++ ".<locals>." ++ "<lambda>")] "item_proof" ["items", "index"] 26 (F_item_proof 12) := ⟨_, _, PySem.W.mg_of X G a5, k5, b5, ok_item_proof F5 (PySem.W.mg_of X G a5) b5 D4 D3 hb (by decide) ⟨_, E_InvalidProof⟩ 12⟩
  have D6 : Def P w K mg base [(PL, ("law" : Str) ++ ".<locals>." ++ "<lambda>")] "climbed" ["count", "index", "found", "proof"] 14 (F_climbed 12) := ⟨_, _, PySem.W.mg_of X G a6, k6, b6, ok_climbed F6 (PySem.W.mg_of X G a6) b6 D2 D3 12⟩
  have D7 : Def P w K mg base [(PL, ("law" : Str) ++ ".<locals>." ++ "<lambda>")] "takes_item" ["root", "count", "index", "octets", "proof"] 15 F_takes_item := ⟨_, _, PySem.W.mg_of X G a7, k7, b7, ok_takes_item F7 D6 D1 hb (by decide)⟩
  have D8 : DefO P w K mg base [(PL, ("law" : Str) ++ ".<locals>." ++ "<lambda>")] "_law_draws" ["script", "count"] 1 F__law_draws := ⟨_, _, PySem.W.mg_of X G a8, k8, b8, ok__law_draws F8 hb (by decide)⟩
  have D9 : Def P w K mg base [(PL, ("law" : Str) ++ ".<locals>." ++ "<lambda>")] "_law_take" ["draws", "limit"] 1 F__law_take := ⟨_, _, PySem.W.mg_of X G a9, k9, b9, ok__law_take F9 hb (by decide)⟩
  have D10 : Def P w K mg base [(PL, ("law" : Str) ++ ".<locals>." ++ "<lambda>")] "_law_same" ["found", "due"] 4 (F__law_same 4) := ⟨_, _, PySem.W.mg_of X G a10, k10, b10, ok__law_same F10 (PySem.W.mg_of X G a10) b10 hb (by decide) 4⟩
  have D11 : Def P w K mg base [(PL, ("law" : Str) ++ ".<locals>." ++ "<lambda>")] "_law_sum" ["octets"] 1 F__law_sum := ⟨_, _, PySem.W.mg_of X G a11, k11, b11, ok__law_sum F11 hb (by decide)⟩
  have D12 : Def P w K mg base [(PL, ("law" : Str) ++ ".<locals>." ++ "<lambda>")] "_law_leaf" ["octets"] 2 F__law_leaf := ⟨_, _, PySem.W.mg_of X G a12, k12, b12, ok__law_leaf F12 D11 hb (by decide)⟩
  have D13 : Def P w K mg base [(PL, ("law" : Str) ++ ".<locals>." ++ "<lambda>")] "_law_joint" ["a", "b"] 2 F__law_joint := ⟨_, _, PySem.W.mg_of X G a13, k13, b13, ok__law_joint F13 D11 hb (by decide)⟩
  have D14 : Def P w K mg base [(PL, ("law" : Str) ++ ".<locals>." ++ "<lambda>")] "_law_cut" ["count"] 1 F__law_cut := ⟨_, _, PySem.W.mg_of X G a14, k14, b14, ok__law_cut F14⟩
  have D15 : Def P w K mg base [(PL, ("law" : Str) ++ ".<locals>." ++ "<lambda>")] "_law_root" ["sums"] 14 (F__law_root 12) := ⟨_, _, PySem.W.mg_of X G a15, k15, b15, ok__law_root F15 (PySem.W.mg_of X G a15) b15 D13 D14 hb (by decide) 12⟩
  have D16 : Def P w K mg base [(PL, ("law" : Str) ++ ".<locals>." ++ "<lambda>")] "_law_proof" ["sums", "index"] 26 (F__law_proof 12) := ⟨_, _, PySem.W.mg_of X G a16, k16, b16, ok__law_proof F16 (PySem.W.mg_of X G a16) b16 D15 D14 hb (by decide) 12⟩
  have D17 : Def P w K mg base [(PL, ("law" : Str) ++ ".<locals>." ++ "<lambda>")] "_law_climb" ["count", "index", "mine", "proof"] 14 (F__law_climb 12) := ⟨_, _, PySem.W.mg_of X G a17, k17, b17, ok__law_climb F17 (PySem.W.mg_of X G a17) b17 D13 D14 hb (by decide) 12⟩
  have D18 : Def P w K mg base [(PL, ("law" : Str) ++ ".<locals>." ++ "<lambda>")] "_law_takes" ["root", "count", "index", "octets", "proof"] 15 F__law_takes := ⟨_, _, PySem.W.mg_of X G a18, k18, b18, ok__law_takes F18 D17 D12 hb (by decide)⟩
  have D19 : Def P w K mg base [(PL, ("law" : Str) ++ ".<locals>." ++ "<lambda>")] "_law_bent" ["draws", "proof"] 2 F__law_bent := ⟨_, _, PySem.W.mg_of X G a19, k19, b19, ok__law_bent F19 D9 hb (by decide)⟩
  exact ok_law F20 (TB _ (List.mem_singleton.mpr rfl)) (List.mem_singleton.mpr rfl) (fun p hp _ => by rw [List.mem_singleton.mp hp]) F21 b21 (PySem.W.mg_of X G a21) (PySem.W.mg_of X G a_InvalidProof) (fun z C b hz hm => sub_self (PySem.W.mg_of X G a_InvalidProof) b_InvalidProof y_InvalidProof i_InvalidProof s_InvalidProof hz hm) D7 D4 D5 D10 D18 D9 D19 D16 D13 D2 D1 D11 D0 D15 D12 D8 hb (by decide)
end Mv
open PySem PySem.W PyProof.Rows
set_option maxRecDepth 100000 in
set_option maxHeartbeats 0 in
theorem PySem.Challenge.cw_paperark_k91_trees_of_sums_holds : PySem.Challenge.rw_paperark_k91_trees_of_sums.Holds := by
  w_on; o_law; k_head; (case hw => w_witness2)
  k_fill
  refine Mv.mv_walk (l := PySem.Challenge.rw_paperark_k91_trees_of_sums) (k := 29) (F := Mv.F_law) Mv.pure_law rfl rfl ⟨rfl, by decide, by decide⟩ (by decide +kernel) (fun w h Y => PySem.W.km_in_of Y) ?F
  case F =>
    intro w mg fa h Y KX G hmg own
    refine' Mv.all_mk KX G hmg own ?a0 ?l0 ?c0 ?k0 ?a1 ?l1 ?c1 ?k1 ?a2 ?l2 ?c2 ?k2 ?a3 ?l3 ?c3 ?k3 ?a4 ?l4 ?c4 ?k4 ?a5 ?l5 ?c5 ?k5 ?a6 ?l6 ?c6 ?k6 ?a7 ?l7 ?c7 ?k7 ?a8 ?l8 ?c8 ?k8 ?a9 ?l9 ?c9 ?k9 ?a10 ?l10 ?c10 ?k10 ?a11 ?l11 ?c11 ?k11 ?a12 ?l12 ?c12 ?k12 ?a13 ?l13 ?c13 ?k13 ?a14 ?l14 ?c14 ?k14 ?a15 ?l15 ?c15 ?k15 ?a16 ?l16 ?c16 ?k16 ?a17 ?l17 ?c17 ?k17 ?a18 ?l18 ?c18 ?k18 ?a19 ?l19 ?c19 ?k19 ?a20 ?l20 ?c20 ?k20 ?a21 ?l21 ?c21 ?k21 ?Qlc ?Qhv ?QnP ?Qhc ?n_FACTOR ?n_MODULUS ?n_FIRST ?n_DIGITS ?a_InvalidProof ?e_InvalidProof ?p_InvalidProof ?b_InvalidProof ?y_InvalidProof ?i_InvalidProof ?s_InvalidProof ?z_all ?z_bool ?z_dict ?z_int ?z_isinstance ?z_len ?z_list ?z_range ?z_str ?z_tuple
    (case a0 => k_is); (case l0 => k_is); (case c0 => k_is); (case k0 => k_is)
    (case a1 => k_is); (case l1 => k_is); (case c1 => k_is); (case k1 => k_is)
    (case a2 => k_is); (case l2 => k_is); (case c2 => k_is); (case k2 => k_is)
    (case a3 => k_is); (case l3 => k_is); (case c3 => k_is); (case k3 => k_is)
    (case a4 => k_is); (case l4 => k_is); (case c4 => k_is); (case k4 => k_is)
    (case a5 => k_is); (case l5 => k_is); (case c5 => k_is); (case k5 => k_is)
    (case a6 => k_is); (case l6 => k_is); (case c6 => k_is); (case k6 => k_is)
    (case a7 => k_is); (case l7 => k_is); (case c7 => k_is); (case k7 => k_is)
    (case a8 => k_is); (case l8 => k_is); (case c8 => k_is); (case k8 => k_is)
    (case a9 => k_is); (case l9 => k_is); (case c9 => k_is); (case k9 => k_is)
    (case a10 => k_is); (case l10 => k_is); (case c10 => k_is); (case k10 => k_is)
    (case a11 => k_is); (case l11 => k_is); (case c11 => k_is); (case k11 => k_is)
    (case a12 => k_is); (case l12 => k_is); (case c12 => k_is); (case k12 => k_is)
    (case a13 => k_is); (case l13 => k_is); (case c13 => k_is); (case k13 => k_is)
    (case a14 => k_is); (case l14 => k_is); (case c14 => k_is); (case k14 => k_is)
    (case a15 => k_is); (case l15 => k_is); (case c15 => k_is); (case k15 => k_is)
    (case a16 => k_is); (case l16 => k_is); (case c16 => k_is); (case k16 => k_is)
    (case a17 => k_is); (case l17 => k_is); (case c17 => k_is); (case k17 => k_is)
    (case a18 => k_is); (case l18 => k_is); (case c18 => k_is); (case k18 => k_is)
    (case a19 => k_is); (case l19 => k_is); (case c19 => k_is); (case k19 => k_is)
    (case a20 => k_is); (case l20 => k_is); (case c20 => k_is); (case k20 => k_is)
    (case a21 => k_is); (case l21 => k_is); (case c21 => k_is); (case k21 => k_is)
    (case Qlc => k_is); (case Qhv => first | rfl | k_is); (case QnP => first | k_is | kernel_rfl | rfl); (case Qhc => first | k_is | kernel_rfl | rfl)
    (case n_FACTOR => k_is); (case n_MODULUS => k_is); (case n_FIRST => k_is); (case n_DIGITS => k_is)
    (case a_InvalidProof => k_is); (case e_InvalidProof => k_exc); (case p_InvalidProof => k_is); (case b_InvalidProof => k_is)
    (case y_InvalidProof => k_is); (case i_InvalidProof => k_is); (case s_InvalidProof => first | rfl | k_is); (case z_all => k_is)
    (case z_bool => k_is); (case z_dict => k_is); (case z_int => k_is); (case z_isinstance => k_is)
    (case z_len => k_is); (case z_list => k_is); (case z_range => k_is); (case z_str => k_is)
    (case z_tuple => k_is)

