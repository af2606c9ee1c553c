import PyProof.Rows.All
import Wide.All
import OpenK.AllK
import Wide.FinOn
import HandS.ForMost
import HandS.ForExc
import HandS.Wide
import HandS.Walk
import HandS.Zip
import HandS.TupAny
import HandS.TupMul
import HandS.IsInst
import HandS.Deep
import HandS.Style
import KE.GoesEnum
import HandS.Dict
import HandS.Iter
import HandS.Head0
import HandS.Head1
import HandS.Head2
import HandS.HeadEnd
import HandS.HeadHook1
import HandS.HeadHook2
import HandS.HeadHook3
import HandS.HeadHook4
import HandS.SortInts
import HandS.TupSets
import PySem.Challenge.RW_payladders_k02_whole_payments
set_option Elab.async false
set_option linter.all false
set_option maxRecDepth 100000
set_option maxHeartbeats 0
/-! Sx: a semantic layer: every piece of code is read as a plain function over data. -/
namespace Sx
open PySem PySem.Spec PyProof.Rows L2

abbrev Dt := PyData
/-- a result: a value, an exception (its class), or nothing that is claimed -/
inductive Res (α : Type) where
  | ok (a : α) | exc (c : Str) | bad
def Res.bind {α β : Type} : Res α → (α → Res β) → Res β
  | .ok a, f => f a
  | .exc c, _ => .exc c
  | .bad, _ => .bad
@[simp] theorem Res.bind_ok {α β : Type} (a : α) (f : α → Res β) : Res.bind (.ok a) f = f a := rfl
@[simp] theorem Res.bind_exc {α β : Type} (c : Str) (f : α → Res β) : Res.bind (.exc c) f = .exc c := rfl
@[simp] theorem Res.bind_bad {α β : Type} (f : α → Res β) : Res.bind .bad f = .bad := rfl
/-- what a slot holds: data that never changes; an own list; a list of own lists; an own dict; the town -/
inductive SV where
  | d (x : Dt) | own (xs : List Dt) | ow2 (rows : List (List Dt)) | dk (kvs : List (Int × Dt)) | fd (kvs : List (Int × Dt)) | town
abbrev Sl := List (Option SV)
abbrev Tw := Option (List Dt)

/-! ### data over heaps -/
theorem rd_mono {F F' : Hp} {a : Addr} {u : HO} (e : Same F F') (h : Rd F a u) : Rd F' a u := by
  rcases h with h | ⟨o, h⟩
  · exact .inl (e _ _ h)
  · exact .inr ⟨o, e _ _ h⟩
theorem sqT_mono {K : PySem.W.Frag} {F F' : Hp} {a : Addr} {xs : List V} (e : Same F F') (h : SqT K F a xs) : SqT K F' a xs := by
  rcases h with h | h
  · exact .inl (rd_mono e h)
  · exact .inr h
mutual
/-- data over a heap: a list is a tracked one -/
inductive Dq (K : PySem.W.Frag) (H : Hp) : V → Dt → Prop
  | non : Dq K H .non .none
  | bl (b : Bool) : Dq K H (.bl b) (.bool b)
  | int (i : Int) : Dq K H (.int i) (.int i)
  | str (x : Str) : Dq K H (.str x) (.str x)
  | lst {a : Addr} {xs : List V} {ds : List Dt} : SqL K H a xs → DqAll K H xs ds → Dq K H (.ref a) (.list ds)
  | tup {a : Addr} {xs : List V} {ds : List Dt} : SqT K H a xs → DqAll K H xs ds → Dq K H (.ref a) (.tuple ds)
inductive DqAll (K : PySem.W.Frag) (H : Hp) : List V → List Dt → Prop
  | nil : DqAll K H [] []
  | cons {v : V} {vs : List V} {d : Dt} {ds : List Dt} : Dq K H v d → DqAll K H vs ds → DqAll K H (v :: vs) (d :: ds)
end
mutual
theorem dq_dp {K : PySem.W.Frag} {F F' : Hp} (e : Same F F') : ∀ (d : Dt) (v : V), Dq K F v d → Dp K F' v d
  | .none, _, h => by cases h; exact .non
  | .bool b, _, h => by cases h; exact .bl b
  | .int i, _, h => by cases h; exact .int i
  | .str x, _, h => by cases h; exact .str x
  | .list ds, _, h => by
    cases h with
    | lst hs ha => exact .lst (e.seq hs) (dqAll_dp e ds _ ha)
  | .tuple ds, _, h => by
    cases h with
    | tup hs ha => exact .tup (sqT_mono e hs) (dqAll_dp e ds _ ha)
  | .dict _, _, h => by cases h
theorem dqAll_dp {K : PySem.W.Frag} {F F' : Hp} (e : Same F F') : ∀ (ds : List Dt) (vs : List V), DqAll K F vs ds → DpAll K F' vs ds
  | [], _, h => by cases h; exact .nil
  | d :: ds, _, h => by
    cases h with
    | cons h1 h2 => exact .cons (dq_dp e d _ h1) (dqAll_dp e ds _ h2)
end
mutual
theorem dq_mono {K : PySem.W.Frag} {F F' : Hp} (e : Same F F') : ∀ (d : Dt) (v : V), Dq K F v d → Dq K F' v d
  | .none, _, h => by cases h; exact .non
  | .bool b, _, h => by cases h; exact .bl b
  | .int i, _, h => by cases h; exact .int i
  | .str x, _, h => by cases h; exact .str x
  | .list ds, _, h => by
    cases h with
    | lst hs ha => exact .lst (e.seq hs) (dqAll_mono e ds _ ha)
  | .tuple ds, _, h => by
    cases h with
    | tup hs ha => exact .tup (sqT_mono e hs) (dqAll_mono e ds _ ha)
  | .dict _, _, h => by cases h
theorem dqAll_mono {K : PySem.W.Frag} {F F' : Hp} (e : Same F F') : ∀ (ds : List Dt) (vs : List V), DqAll K F vs ds → DqAll K F' vs ds
  | [], _, h => by cases h; exact .nil
  | d :: ds, _, h => by
    cases h with
    | cons h1 h2 => exact .cons (dq_mono e d _ h1) (dqAll_mono e ds _ h2)
end
section
variable {K : PySem.W.Frag} {F F' H H' : Hp} {v : V} {vs us : List V} {d : Dt} {ds es : List Dt}
theorem Dq.mono (h : Dq K F v d) (e : Same F F') : Dq K F' v d := dq_mono e d v h
theorem DqAll.mono (h : DqAll K F vs ds) (e : Same F F') : DqAll K F' vs ds := dqAll_mono e ds vs h
theorem DqAll.length : ∀ {vs : List V} {ds : List Dt}, DqAll K F vs ds → vs.length = ds.length
  | _, _, .nil => rfl
  | _, _, .cons _ t => by rw [List.length_cons, List.length_cons, DqAll.length t]
theorem DqAll.get : ∀ {vs : List V} {ds : List Dt} {i : Nat} {v : V}, DqAll K F vs ds → vs[i]? = some v → ∃ d, ds[i]? = some d ∧ Dq K F v d
  | _, _, _, _, .nil, e => by simp at e
  | _, _, 0, _, .cons h _, e => by simp at e; subst e; exact ⟨_, rfl, h⟩
  | _, _, i + 1, v, .cons _ t, e => by
    obtain ⟨d, h1, h2⟩ := DqAll.get (i := i) (v := v) t (by simpa using e)
    exact ⟨d, by simpa using h1, h2⟩
theorem DqAll.getD : ∀ {vs : List V} {ds : List Dt} {i : Nat} {d : Dt}, DqAll K F vs ds → ds[i]? = some d → ∃ v, vs[i]? = some v ∧ Dq K F v d
  | _, _, _, _, .nil, e => by simp at e
  | _, _, 0, _, .cons h _, e => by simp at e; subst e; exact ⟨_, rfl, h⟩
  | _, _, i + 1, v, .cons _ t, e => by
    obtain ⟨d, h1, h2⟩ := DqAll.getD (i := i) (d := v) t (by simpa using e)
    exact ⟨d, by simpa using h1, h2⟩
theorem DqAll.append : ∀ {vs : List V} {ds : List Dt}, DqAll K F vs ds → DqAll K F us es → DqAll K F (vs ++ us) (ds ++ es)
  | _, _, .nil, h => h
  | _, _, .cons h t, g => .cons h (DqAll.append t g)
theorem DqAll.one (h : Dq K F v d) : DqAll K F [v] [d] := .cons h .nil
theorem DqAll.take : ∀ {vs : List V} {ds : List Dt} (n : Nat), DqAll K F vs ds → DqAll K F (vs.take n) (ds.take n)
  | _, _, 0, _ => .nil
  | _, _, _ + 1, .nil => .nil
  | _, _, n + 1, .cons h t => .cons h (DqAll.take n t)
theorem DqAll.drop : ∀ {vs : List V} {ds : List Dt} (n : Nat), DqAll K F vs ds → DqAll K F (vs.drop n) (ds.drop n)
  | _, _, 0, h => h
  | _, _, _ + 1, .nil => .nil
  | _, _, n + 1, .cons _ t => DqAll.drop n t
theorem DqAll.set : ∀ {vs : List V} {ds : List Dt} (i : Nat), DqAll K F vs ds → Dq K F v d → DqAll K F (vs.set i v) (ds.set i d)
  | _, _, _, .nil, _ => .nil
  | _, _, 0, .cons _ t, g => .cons g t
  | _, _, i + 1, .cons h t, g => .cons h (DqAll.set i t g)
theorem DqAll.rep (h : DqAll K F vs ds) : ∀ k : Nat, DqAll K F (List.replicate k vs).flatten (List.replicate k ds).flatten
  | 0 => .nil
  | k + 1 => by
    rw [List.replicate_succ, List.replicate_succ, List.flatten_cons, List.flatten_cons]
    exact h.append (DqAll.rep h k)
end

/-! ### how heaps grow -/
structure Gr (M : Addr → Prop) (F H F' H' : Hp) : Prop where
  ff : Same F F'
  fh : Same F' H'
  nw : ∀ a, F' a ≠ none → F a ≠ none ∨ H a = none
  kp : ∀ a o, H a = some o → ¬ M a → H' a = some o
  th : ∀ a, H a ≠ none → H' a ≠ none
abbrev Gr0 : Hp → Hp → Hp → Hp → Prop := Gr (fun _ => False)
section
variable {M M' : Addr → Prop} {F H F1 H1 F2 H2 : Hp} {p : Addr} {o : HO}
theorem Gr.refl (h : Same F H) : Gr M F H F H := ⟨.refl _, h, fun _ e => .inl e, fun _ _ e _ => e, fun _ e => e⟩
theorem Gr.trans (a : Gr M F H F1 H1) (b : Gr M F1 H1 F2 H2) : Gr M F H F2 H2 where
  ff := a.ff.trans b.ff
  fh := b.fh
  nw := fun x e => by
    rcases b.nw x e with z | z
    · exact a.nw x z
    · exact .inr (Classical.byContradiction fun q => a.th x q z)
  kp := fun x u e n => b.kp x u (a.kp x u e n) n
  th := fun x e => b.th x (a.th x e)
theorem Gr.mono (a : Gr M F H F1 H1) (h : ∀ x, M x → M' x) : Gr M' F H F1 H1 := ⟨a.ff, a.fh, a.nw, fun x u e n => a.kp x u e fun z => n (h x z), a.th⟩
theorem Gr.any (a : Gr0 F H F1 H1) : Gr M F H F1 H1 := a.mono fun _ z => z.elim
theorem same_of_none {F H : Hp} (e : Same F H) (h : H p = none) : F p = none := e.free h
theorem same_new (h : H p = none) : Same H (upd H p o) := fun b x e => by
  rw [upd_ne (ne_of_none e h)]
  exact e
theorem same_both (s : Same F H) : Same (upd F p o) (upd H p o) := fun b x e => by
  by_cases hb : b = p
  · subst hb; rw [upd_same] at e ⊢; exact e
  · rw [upd_ne hb] at e ⊢; exact s b x e
/-- a new object that never changes -/
theorem Gr.new (s : Same F H) (h : H p = none) : Gr M F H (upd F p o) (upd H p o) where
  ff := same_new (s.free h)
  fh := same_both s
  nw := fun a e => by
    by_cases ha : a = p
    · subst ha; exact .inr h
    · rw [upd_ne ha] at e; exact .inl e
  kp := fun a u e _ => same_new h a u e
  th := fun a e => by
    by_cases ha : a = p
    · subst ha; rw [upd_same]; exact fun z => nomatch z
    · rw [upd_ne ha]; exact e
/-- a new object that may change -/
theorem Gr.newH (s : Same F H) (h : H p = none) : Gr M F H F (upd H p o) where
  ff := .refl _
  fh := s.trans (same_new h)
  nw := fun a e => .inl e
  kp := fun a u e _ => same_new h a u e
  th := fun a e => by
    by_cases ha : a = p
    · subst ha; rw [upd_same]; exact fun z => nomatch z
    · rw [upd_ne ha]; exact e
theorem same_mut (s : Same F H) (h : F p = none) : Same F (upd H p o) := fun b x e => by
  rw [upd_ne (ne_of_none e h)]
  exact s b x e
end

/-! ### the state of a def that runs -/
structure Gh where
  T0 : Option Addr
  F0 : Hp
  H0 : Hp
  ext : List (Addr × HO)
  T : Option Addr
  fp : Nat → List Addr
def Gh.tm (G : Gh) : Addr → Prop := fun a => G.T0 = some a
def TwOk (K : PySem.W.Frag) (F H : Hp) : Option Addr → Tw → Prop
  | none, none => True
  | some t, some ws => ∃ tv, H t = some (.lst tv) ∧ F t = none ∧ DqAll K F tv ws
  | _, _ => False
/-- rows of own lists -/
inductive Rows (K : PySem.W.Frag) (F H : Hp) : List Addr → List (List Dt) → Prop
  | nil : Rows K F H [] []
  | cons {q : Addr} {qs : List Addr} {vs : List V} {r : List Dt} {rs : List (List Dt)} : H q = some (.lst vs) → DqAll K F vs r → Rows K F H qs rs → Rows K F H (q :: qs) (r :: rs)
/-- the entries of a dict whose keys are ints -/
inductive KvOk (K : PySem.W.Frag) (F : Hp) : List (Key × V) → List (Int × Dt) → Prop
  | nil : KvOk K F [] []
  | cons {k : Int} {v : V} {d : Dt} {vs : List (Key × V)} {ds : List (Int × Dt)} : Dq K F v d → KvOk K F vs ds → KvOk K F ((.inl k, v) :: vs) ((k, d) :: ds)
theorem KvOk.mono {K : PySem.W.Frag} {F F' : Hp} (e : Same F F') : ∀ {vs : List (Key × V)} {ds : List (Int × Dt)}, KvOk K F vs ds → KvOk K F' vs ds
  | _, _, .nil => .nil
  | _, _, .cons h t => .cons (h.mono e) (KvOk.mono e t)
def SlOk (K : PySem.W.Frag) (T : Option Addr) (F H : Hp) (v : V) (fp : List Addr) : SV → Prop
  | .d x => Dq K F v x
  | .own xs => ∃ p vs, v = .ref p ∧ fp = [p] ∧ H p = some (.lst vs) ∧ DqAll K F vs xs
  | .ow2 rows => ∃ p qs, v = .ref p ∧ fp = p :: qs ∧ H p = some (.lst (qs.map V.ref)) ∧ Rows K F H qs rows ∧ (p :: qs).Nodup
  | .dk kvs => ∃ p vs, v = .ref p ∧ fp = [p] ∧ H p = some (.dK vs) ∧ KvOk K F vs kvs
  | .fd kvs => ∃ p o vs, v = .ref p ∧ F p = some (.frz o (.dK vs)) ∧ KvOk K F vs kvs
  | .town => ∃ t, T = some t ∧ v = .ref t
structure Rel (K : PySem.W.Frag) (G : Gh) (ρ : Sl) (W : Tw) (σ : L2.St) (F H : Hp) : Prop where
  gr : Gr G.tm G.F0 G.H0 F H
  len : ρ.length = σ.length
  t0 : ∀ t, G.T0 = some t → G.T = some t
  t1 : ∀ t, G.T = some t → G.T0 = some t ∨ G.H0 t = none
  tw : TwOk K F H G.T W
  sl : ∀ (i : Nat) (sv : SV), ρ[i]? = some (some sv) → ∃ v, σ[i]? = some (some v) ∧ SlOk K G.T F H v (G.fp i) sv
  dj : ∀ (i j : Nat) (a : Addr), a ∈ G.fp i → a ∈ G.fp j → i = j
  fr : ∀ (i : Nat) (a : Addr), a ∈ G.fp i → F a = none ∧ H a ≠ none ∧ G.H0 a = none ∧ G.T ≠ some a
  ex : ∀ e ∈ G.ext, H e.1 = some e.2 ∧ F e.1 = none ∧ G.T ≠ some e.1 ∧ ∀ i, e.1 ∉ G.fp i

section
variable {K : PySem.W.Frag} {G : Gh} {ρ : Sl} {W W' : Tw} {σ : L2.St} {F H F' H' : Hp}
theorem Rel.fh (R : Rel K G ρ W σ F H) : Same F H := R.gr.fh
theorem Rows.keep (e : Same F F') (k : ∀ a, H a ≠ none → H' a = H a) : ∀ {qs : List Addr} {rs : List (List Dt)}, Rows K F H qs rs → Rows K F' H' qs rs
  | _, _, .nil => .nil
  | _, _, .cons h a t => .cons (by rw [k _ (by rw [h]; exact fun z => nomatch z)]; exact h) (a.mono e) (Rows.keep e k t)
theorem SlOk.keep {T : Option Addr} {v : V} {fp : List Addr} {sv : SV} (e : Same F F') (k : ∀ a, H a ≠ none → a ∈ fp → H' a = H a) (kk : ∀ a, H a ≠ none → a ∈ fp → H' a = H a) (h : SlOk K T F H v fp sv) : SlOk K T F' H' v fp sv := by
  cases sv with
  | d x => exact Dq.mono h e
  | own xs =>
    obtain ⟨p, vs, rfl, rfl, hp, ha⟩ := h
    exact ⟨p, vs, rfl, rfl, by rw [k p (by rw [hp]; exact fun z => nomatch z) (by simp)]; exact hp, ha.mono e⟩
  | ow2 rows =>
    obtain ⟨p, qs, rfl, rfl, hp, hr, nd⟩ := h
    refine ⟨p, qs, rfl, rfl, by rw [k p (by rw [hp]; exact fun z => nomatch z) (by simp)]; exact hp, ?_, nd⟩
    have : ∀ {qs' : List Addr} {rs : List (List Dt)}, (∀ a ∈ qs', a ∈ qs) → Rows K F H qs' rs → Rows K F' H' qs' rs := by
      intro qs' rs hm r
      induction r with
      | nil => exact .nil
      | cons hq a t ih => exact .cons (by rw [k _ (by rw [hq]; exact fun z => nomatch z) (List.mem_cons_of_mem _ (hm _ (by simp)))]; exact hq) (a.mono e) (ih fun b hb => hm b (List.mem_cons_of_mem _ hb))
    exact this (fun _ z => z) hr
  | dk kvs =>
    obtain ⟨p, vs, rfl, rfl, hp, ha⟩ := h
    exact ⟨p, vs, rfl, rfl, by rw [k p (by rw [hp]; exact fun z => nomatch z) (by simp)]; exact hp, ha.mono e⟩
  | fd kvs =>
    obtain ⟨p, o, vs, rfl, hp, ha⟩ := h
    exact ⟨p, o, vs, rfl, e _ _ hp, ha.mono e⟩
  | town => exact h
/-- nothing that stood has changed -/
theorem Rel.grow (R : Rel K G ρ W σ F H) (g : Gr0 F H F' H') : Rel K G ρ W σ F' H' where
  gr := R.gr.trans g.any
  len := R.len
  t0 := R.t0
  t1 := R.t1
  tw := by
    have h := R.tw
    revert h
    cases G.T <;> cases W <;> intro h
    · trivial
    · exact h
    · exact h
    · obtain ⟨tv, h1, h2, h3⟩ := h
      refine ⟨tv, g.kp _ _ h1 (fun z => z), ?_, h3.mono g.ff⟩
      exact Classical.byContradiction fun z => by
        rcases g.nw _ z with q | q
        · exact q h2
        · rw [h1] at q; cases q
  sl := fun i sv e => by
    obtain ⟨v, h1, h2⟩ := R.sl i sv e
    have k : ∀ a, H a ≠ none → a ∈ G.fp i → H' a = H a := fun a ha _ => by
      cases q : H a with
      | none => exact absurd q ha
      | some o => exact g.kp a o q fun z => z
    exact ⟨v, h1, h2.keep g.ff k k⟩
  dj := R.dj
  fr := fun i a ha => by
    obtain ⟨h1, h2, h3, h4⟩ := R.fr i a ha
    refine ⟨?_, g.th a h2, h3, h4⟩
    exact Classical.byContradiction fun z => by
      rcases g.nw _ z with q | q
      · exact q h1
      · exact h2 q
  ex := fun e he => by
    obtain ⟨h1, h2, h3⟩ := R.ex e he
    refine ⟨g.kp _ _ h1 fun z => z, ?_, h3⟩
    exact Classical.byContradiction fun z => by
      rcases g.nw _ z with q | q
      · exact q h2
      · rw [h1] at q; cases q
end

/-- an address that none of the state's changing things has -/
def Fresh (G : Gh) (p : Addr) : Prop := G.H0 p = none ∧ (∀ i, p ∉ G.fp i) ∧ G.T ≠ some p ∧ ∀ e ∈ G.ext, e.1 ≠ p
theorem Rel.fresh {K : PySem.W.Frag} {G : Gh} {ρ : Sl} {W : Tw} {σ : L2.St} {F H : Hp} (R : Rel K G ρ W σ F H) {p : Addr} (h : H p = none) : Fresh G p := by
  refine ⟨Classical.byContradiction fun z => R.gr.th p z h, fun i hi => (R.fr i p hi).2.1 h, fun e => ?_, fun e he z => ?_⟩
  · have t := R.tw
    rw [e] at t
    cases W with
    | none => exact t
    | some ws => obtain ⟨tv, h1, _⟩ := t; rw [h] at h1; cases h1
  · have := (R.ex e he).1
    rw [z, h] at this
    cases this
/-- a thing that may change is told to all: from now on it never changes -/
theorem Rel.freeze {K : PySem.W.Frag} {G : Gh} {ρ : Sl} {W : Tw} {σ : L2.St} {F H : Hp} (R : Rel K G ρ W σ F H) {p : Addr} {o : HO} (h : H p = some o) (hF : F p = none) (fr : Fresh G p) : Rel K G ρ W σ (upd F p o) H := by
  obtain ⟨f1, f2, f3, f4⟩ := fr
  have sF : Same F (upd F p o) := same_new hF
  refine ⟨⟨R.gr.ff.trans sF, fun a u e => ?_, fun a e => ?_, R.gr.kp, R.gr.th⟩, R.len, R.t0, R.t1, ?_, fun i sv e => ?_, R.dj, fun i a ha => ?_, fun e he => ?_⟩
  · by_cases ha : a = p
    · subst ha; rw [upd_same] at e; cases e; exact h
    · rw [upd_ne ha] at e; exact R.fh a u e
  · by_cases ha : a = p
    · subst ha; exact .inr f1
    · rw [upd_ne ha] at e; exact R.gr.nw a e
  · have t := R.tw
    revert t
    cases hT : G.T <;> cases W <;> intro t
    · trivial
    · exact t
    · exact t
    · obtain ⟨tv, h1, h2, h3⟩ := t
      exact ⟨tv, h1, by rw [upd_ne (fun z => f3 (by rw [hT, z]))]; exact h2, h3.mono sF⟩
  · obtain ⟨v, h1, h2⟩ := R.sl i sv e
    exact ⟨v, h1, h2.keep sF (fun _ _ _ => rfl) (fun _ _ _ => rfl)⟩
  · obtain ⟨h1, h2⟩ := R.fr i a ha
    have hne : a ≠ p := fun z => f2 i (by rw [← z]; exact ha)
    exact ⟨by rw [upd_ne hne]; exact h1, h2⟩
  · obtain ⟨h1, h2, h3⟩ := R.ex e he
    exact ⟨h1, by rw [upd_ne (f4 e he)]; exact h2, h3⟩

/-! ### readings -/
def Pg {α : Type} (XE : Str → Hp → Prop) (G : Gh) (r : Res (α × Tw)) (P : α → Tw → Prop) : Prop :=
  match r with
  | .ok p => P p.1 p.2
  | .exc c => ∀ F' H', Gr G.tm G.F0 G.H0 F' H' → XE c H'
  | .bad => False
section
variable {α β : Type} {XE : Str → Hp → Prop} {G : Gh}
theorem Pg.of_bind {r : Res (α × Tw)} {k : α × Tw → Res (β × Tw)} {P : β → Tw → Prop} (h : Pg XE G (r.bind k) P) : Pg XE G r fun a W' => Pg XE G (k (a, W')) P := by
  cases r with
  | ok p => exact h
  | exc c => exact h
  | bad => exact h
theorem Pg.mono {r : Res (α × Tw)} {P P' : α → Tw → Prop} (h : Pg XE G r P) (m : ∀ a W', P a W' → P' a W') : Pg XE G r P' := by
  cases r with
  | ok p => exact m _ _ h
  | exc c => exact h
  | bad => exact h
end
def ofO {α : Type} : Option α → Tw → Res (α × Tw)
  | some a, W => .ok (a, W)
  | none, _ => .bad
theorem Pg.of_ofO {α : Type} {XE : Str → Hp → Prop} {G : Gh} {o : Option α} {W : Tw} {P : α → Tw → Prop} (h : Pg XE G (ofO o W) P) : ∃ a, o = some a ∧ P a W := by
  cases o with
  | none => exact h.elim
  | some a => exact ⟨a, rfl, h⟩
/-- to be read: data, or an own list (its items are data) -/
def RB (K : PySem.W.Frag) (F H : Hp) (v : V) (d : Dt) : Prop := Dq K F v d ∨ ∃ p vs ds, v = .ref p ∧ d = .list ds ∧ H p = some (.lst vs) ∧ DqAll K F vs ds
def Stb (K : PySem.W.Frag) (G : Gh) (ρ : Sl) (σ : L2.St) (F : Hp) (v : V) (d : Dt) : Prop := ∀ F' H' W', Same F F' → Rel K G ρ W' σ F' H' → RB K F' H' v d
abbrev SE := Sl → Tw → Res (Dt × Tw)
abbrev SB := Sl → Tw → Res (Bool × Tw)
abbrev SA := Sl → Tw → Res (List Dt × Tw)
def tE (K : PySem.W.Frag) (XE : Str → Hp → Prop) (f : SE) : TE := fun σ H Q => ∃ G ρ W F, Rel K G ρ W σ F H ∧
  Pg XE G (f ρ W) fun d W' => ∀ v F' H', Same F F' → Rel K G ρ W' σ F' H' → Dq K F' v d → Q v H'
def tR (K : PySem.W.Frag) (XE : Str → Hp → Prop) (f : SE) : TE := fun σ H Q => ∃ G ρ W F, Rel K G ρ W σ F H ∧
  Pg XE G (f ρ W) fun d W' => ∀ v F' H', Same F F' → Rel K G ρ W' σ F' H' → Stb K G ρ σ F' v d → Q v H'
/-- a new list, not yet told to anyone -/
def tL (K : PySem.W.Frag) (XE : Str → Hp → Prop) (f : SA) : TE := fun σ H Q => ∃ G ρ W F, Rel K G ρ W σ F H ∧
  Pg XE G (f ρ W) fun ds W' => ∀ p vs F' H', Same F F' → Rel K G ρ W' σ F' H' → Fresh G p → H' p = some (.lst vs) → F' p = none → DqAll K F' vs ds → Q (.ref p) H'
def tT (K : PySem.W.Frag) (XE : Str → Hp → Prop) (f : SB) : TT := fun σ H Q => ∃ G ρ W F, Rel K G ρ W σ F H ∧
  Pg XE G (f ρ W) fun b W' => ∀ F' H', Same F F' → Rel K G ρ W' σ F' H' → Q b H'
def tA (K : PySem.W.Frag) (XE : Str → Hp → Prop) (f : SA) : TA := fun σ H Q => ∃ G ρ W F, Rel K G ρ W σ F H ∧
  Pg XE G (f ρ W) fun ds W' => ∀ vs F' H', Same F F' → Rel K G ρ W' σ F' H' → DqAll K F' vs ds → Q vs H'
end Sx
namespace L2
open PySem PySem.Spec PyProof.Rows Sx
section
variable {X : Cx} {e : Expr} {es : List Expr} {st : Stmt} {sts : List Stmt}
theorem PE.weak {t t' : TE} (h : PE X e t) (w : ∀ σ H Q, t' σ H Q → t σ H Q) : PE X e t' := ⟨fun pins s σ H Q I hq => h.run pins s σ H Q I (w σ H Q hq)⟩
theorem PT.weak {t t' : TT} (h : PT X e t) (w : ∀ σ H Q, t' σ H Q → t σ H Q) : PT X e t' := ⟨fun pins s σ H Q I hq => h.run pins s σ H Q I (w σ H Q hq)⟩
theorem PW.weak {t t' : TT} (h : PW X e t) (w : ∀ σ H Q, t' σ H Q → t σ H Q) : PW X e t' := ⟨fun wh pins s σ H Q I hq => h.run wh pins s σ H Q I (w σ H Q hq)⟩
theorem PA.weak {t t' : TA} (h : PA X es t) (w : ∀ σ H Q, t' σ H Q → t σ H Q) : PA X es t' := ⟨fun pos pins s σ H Q I hq => h.run pos pins s σ H Q I (w σ H Q hq)⟩
theorem PS.weak {t t' : TS} (h : PS X st t) (w : ∀ D σ H, t' D σ H → t D σ H) : PS X st t' := ⟨fun pins s σ H D I hq => h.run pins s σ H D I (w D σ H hq)⟩
theorem PSs.weak {t t' : TS} (h : PSs X sts t) (w : ∀ D σ H, t' D σ H → t D σ H) : PSs X sts t' := ⟨fun pins s σ H D I hq => h.run pins s σ H D I (w D σ H hq)⟩
end
end L2
namespace Sx
open PySem PySem.Spec PyProof.Rows L2
theorem RB.grow {K : PySem.W.Frag} {F H F' H' : Hp} {v : V} {d : Dt} (h : RB K F H v d) (g : Gr0 F H F' H') : RB K F' H' v d := by
  rcases h with h | ⟨p, vs, ds, rfl, rfl, hp, ha⟩
  · exact .inl (h.mono g.ff)
  · exact .inr ⟨p, vs, ds, rfl, rfl, g.kp _ _ hp fun z => z, ha.mono g.ff⟩
end Sx

namespace Sx
open PySem PySem.Spec PyProof.Rows L2
open AutoSeq1 (wpAny_loadPart')

/-! ### what is read off a value -/
section
variable {K : PySem.W.Frag} {F H : Hp} {v : V}
theorem RB.int {i : Int} (h : RB K F H v (.int i)) : v = .int i := by
  rcases h with h | ⟨_, _, _, _, e, _⟩
  · cases h; rfl
  · cases e
theorem RB.bl {i : Bool} (h : RB K F H v (.bool i)) : v = .bl i := by
  rcases h with h | ⟨_, _, _, _, e, _⟩
  · cases h; rfl
  · cases e
theorem RB.str {i : Str} (h : RB K F H v (.str i)) : v = .str i := by
  rcases h with h | ⟨_, _, _, _, e, _⟩
  · cases h; rfl
  · cases e
theorem RB.non (h : RB K F H v .none) : v = .non := by
  rcases h with h | ⟨_, _, _, _, e, _⟩
  · cases h; rfl
  · cases e
theorem RB.tup {ds : List Dt} (h : RB K F H v (.tuple ds)) : ∃ a vs, v = .ref a ∧ SqT K F a vs ∧ DqAll K F vs ds := by
  rcases h with h | ⟨_, _, _, _, e, _⟩
  · cases h with
    | tup a b => exact ⟨_, _, rfl, a, b⟩
  · cases e
theorem RB.lst {ds : List Dt} (h : RB K F H v (.list ds)) (s : Same F H) : ∃ a vs, v = .ref a ∧ SqL K H a vs ∧ DqAll K F vs ds := by
  rcases h with h | ⟨p, vs, ds', e1, e, hp, ha⟩
  · cases h with
    | lst a b => exact ⟨_, _, rfl, s.seq a, b⟩
  · cases e
    exact ⟨p, vs, e1, .inl (.inl hp), ha⟩
theorem RB.dp {d : Dt} (h : RB K F H v d) (s : Same F H) : Dp K H v d := by
  rcases h with h | ⟨p, vs, ds', e1, e, hp, ha⟩
  · exact dq_dp s d v h
  · subst e1 e
    exact .lst (.inl (.inl hp)) (dqAll_dp s _ _ ha)
end
/-- an operation over two values read as data -/
def RD2 (K : PySem.W.Frag) (g : Dt → Dt → Option Dt) : R2 := fun x y H Q => ∃ F d e z, Same F H ∧ RB K F H x d ∧ RB K F H y e ∧ g d e = some z ∧ ∀ v F' H', Gr0 F H F' H' → Dq K F' v z → Q v H'
def RD1 (K : PySem.W.Frag) (g : Dt → Option Dt) : V → Hp → VK → Prop := fun x H Q => ∃ F d z, Same F H ∧ RB K F H x d ∧ g d = some z ∧ ∀ v F' H', Gr0 F H F' H' → Dq K F' v z → Q v H'
inductive RBs (K : PySem.W.Frag) (F H : Hp) : List V → List Dt → Prop
  | nil : RBs K F H [] []
  | cons {v : V} {vs : List V} {d : Dt} {ds : List Dt} : RB K F H v d → RBs K F H vs ds → RBs K F H (v :: vs) (d :: ds)
/-- a call over values read as data -/
def RDC (K : PySem.W.Frag) (g : List Dt → Option Dt) : List V → Hp → VK → Prop := fun xs H Q => ∃ F ds z, Same F H ∧ RBs K F H xs ds ∧ g ds = some z ∧ ∀ v F' H', Gr0 F H F' H' → Dq K F' v z → Q v H'
/-- .. that gives a new list -/
def RL2 (K : PySem.W.Frag) (g : Dt → Dt → Option (List Dt)) : R2 := fun x y H Q => ∃ F d e zs, Same F H ∧ RB K F H x d ∧ RB K F H y e ∧ g d e = some zs ∧ ∀ p vs, H p = none → DqAll K F vs zs → Q (.ref p) (upd H p (.lst vs))
def RLC (K : PySem.W.Frag) (g : List Dt → Option (List Dt)) : List V → Hp → VK → Prop := fun xs H Q => ∃ F ds zs, Same F H ∧ RBs K F H xs ds ∧ g ds = some zs ∧ ∀ p vs, H p = none → DqAll K F vs zs → Q (.ref p) (upd H p (.lst vs))
section
variable {K : PySem.W.Frag} {F H : Hp} {Q : VK}
/-- the ends: a value that stands by itself, a new tuple, a new list -/
theorem end_int {z : Dt} {i : Int} (s : Same F H) (e : z = .int i) (q : ∀ v F' H', Gr0 F H F' H' → Dq K F' v z → Q v H') : Q (.int i) H := by subst e; exact q _ F H (.refl s) (.int i)
theorem end_bl {z : Dt} {i : Bool} (s : Same F H) (e : z = .bool i) (q : ∀ v F' H', Gr0 F H F' H' → Dq K F' v z → Q v H') : Q (.bl i) H := by subst e; exact q _ F H (.refl s) (.bl i)
theorem end_str {z : Dt} {i : Str} (s : Same F H) (e : z = .str i) (q : ∀ v F' H', Gr0 F H F' H' → Dq K F' v z → Q v H') : Q (.str i) H := by subst e; exact q _ F H (.refl s) (.str i)
theorem end_tup {z : Dt} {vs : List V} {ds : List Dt} {p : Addr} (s : Same F H) (e : z = .tuple ds) (ha : DqAll K F vs ds) (np : H p = none) (q : ∀ v F' H', Gr0 F H F' H' → Dq K F' v z → Q v H') : Q (.ref p) (upd H p (.tup vs)) := by
  subst e
  have g : Gr0 F H (upd F p (.tup vs)) (upd H p (.tup vs)) := .new s np
  exact q _ _ _ g (.tup (.inl (.inl upd_same)) (ha.mono g.ff))
theorem end_lst {z : Dt} {vs : List V} {ds : List Dt} {p : Addr} (s : Same F H) (e : z = .list ds) (ha : DqAll K F vs ds) (np : H p = none) (q : ∀ v F' H', Gr0 F H F' H' → Dq K F' v z → Q v H') : Q (.ref p) (upd H p (.lst vs)) := by
  subst e
  have g : Gr0 F H (upd F p (.lst vs)) (upd H p (.lst vs)) := .new s np
  exact q _ _ _ g (.lst (.inl (.inl upd_same)) (ha.mono g.ff))
end
section
variable {X : Cx}
theorem slM {pins : List (Addr × Obj)} {σ : L2.St} {H : Hp} {s : Shared} {l : Addr} {xs : List V} (I : Inv X pins σ H s) (hH : SqL X.K H l xs) : xs.length ≤ sizeLine ∧ ∃ (its : List Value) (n : Nat) (sl : Array (Option Value)), Vals xs its ∧ xs.length = its.length ∧ s.heap.get? l = some { cls := .type "list", dict := none, data := .seq its.toArray n, slots := sl } := by
  obtain ⟨its, r, ⟨⟨cls, dd, data, sl⟩, n, e, hc, hd, hs⟩, z⟩ := I.list hH
  simp only at hc hd hs
  subst hc hd hs
  exact ⟨z, its, n, sl, r, r.length, e⟩
/-! lists: +, * -/
def rCatR (K : PySem.W.Frag) : R2 := fun x y H Q => ∃ l b xs zs, x = .ref l ∧ y = .ref b ∧ SqL K H l xs ∧ SqL K H b zs ∧ xs.length + zs.length ≤ sizeLine ∧ ∀ p, H p = none → Q (.ref p) (upd H p (.lst (xs ++ zs)))
theorem op_catR : OpR X (binaryOp .Add) (rCatR X.K) := by
  intro pins s σ H x y v u Q I rx ry h
  obtain ⟨l, b, xs, zs, rfl, rfl, hH, hB, hz, q⟩ := h
  cases rx
  cases ry
  obtain ⟨z, its, n, sl, r, hl, e⟩ := slM I hH
  obtain ⟨z2, its2, n2, sl2, r2, hl2, e2⟩ := slM I hB
  have ea : its.toArray ++ its2.toArray = (its ++ its2).toArray := by simp
  refine concat_meets ⟨_, e, rfl⟩ ⟨_, e2, rfl⟩ noFill_list_add seq_list_add PySem.F.slot_list_add PySem.F.entry_list_add (PySem.F.args_list_add_2 _ _) (list_addW l b its.toArray its2.toArray n n2 none none sl sl2 (by rw [List.size_toArray, List.size_toArray]; omega)) ⟨e, e2, ?_⟩
  rw [ea]
  exact ⟨.ref _, _, I.lnew (t' := s.toks) (r.append r2) (by rw [List.length_append]; omega), rfl, q _ I.fresh⟩
theorem int_rmul_listW (a : Int) (t : Tok) (l : Addr) (items : Array Value) (n : Nat) (dd : Option Addr) (sl : Array (Option Value)) :
    Meets (Builtin.«int.__rmul__» ⟨[.int a t, .ref l], []⟩) (fun _ R s => s.heap.get? l = some { cls := .type "list", dict := dd, data := .seq items n, slots := sl } ∧ R (.ok (.ret Value.notImplemented)) s) :=
  .of_wp fun prog w A R s h => by obtain ⟨hp, g, d, tk, os⟩ := s; obtain ⟨hl, h⟩ := h; wp_walk using wpAny_loadPart' hl; exact ⟨_, rfl, h⟩
theorem list_mulW (l : Addr) (items : Array Value) (n : Nat) (dd : Option Addr) (sl : Array (Option Value)) (x : Int) (u : Tok) (hc0 : ¬(!Builtin.List.listFitsIndex x) = true) (hc1 : ¬items.size * x.toNat > (2 ^ 63 - 1) / 8) (hc2 : ¬Builtin.List.listTooLong (items.size * x.toNat) = true) :
    Meets (Builtin.«list.__mul__» ⟨[.ref l, .int x u], []⟩) (fun _ R s => s.heap.get? l = some { cls := .type "list", dict := dd, data := .seq items n, slots := sl } ∧ R (.ok (.ret (Value.ref s.heap.objs.size))) { s with heap := s.heap.push { cls := Value.type "list", data := Data.seq (List.foldl (fun x1 x2 => x1 ++ x2) #[] (List.replicate (if items.isEmpty = true then 0 else x.toNat) items)) }, toks := s.toks }) :=
  .of_wp fun prog w A R s h => by
    obtain ⟨hp, g, d, tk, os⟩ := s; obtain ⟨hl, h⟩ := h
    have hsz := AutoListH.joined_fits hc2
    have f1 := AutoSeq1.idx_int
    wp_walk using wpAny_loadPart' hl
    refine wpAny_ite_false (decide_eq_false (Nat.not_lt.mpr hsz)) ?_
    wp_walk using wpAny_loadPart' hl
    exact ⟨_, rfl, h⟩
def rRepR (K : PySem.W.Frag) : R2 := fun x y H Q => ∃ l k xs, x = .ref l ∧ y = .int k ∧ SqL K H l xs ∧ -(2 ^ 63) ≤ k ∧ k < 2 ^ 63 ∧ xs.length * k.toNat ≤ sizeLine ∧
  ∀ p, H p = none → Q (.ref p) (upd H p (.lst (List.replicate k.toNat xs).flatten))
theorem op_repR : OpR X (binaryOp .Mult) (rRepR X.K) := by
  intro pins s σ H x y v u Q I rx ry h
  obtain ⟨l, k, xs, rfl, rfl, hH, h1, h2, hz, q⟩ := h
  cases rx
  obtain ⟨t, rfl⟩ := ry
  obtain ⟨z, its, n, sl, r, hl, e⟩ := slM I hH
  have hlen : its.toArray.size * k.toNat ≤ sizeLine := by rw [List.size_toArray, ← hl]; exact hz
  have hcap : ¬ its.toArray.size * k.toNat > (2 ^ 63 - 1) / 8 := by
    have : (sizeLine : Nat) ≤ (2 ^ 63 - 1) / 8 := by decide
    omega
  have hfit : ¬ (!Builtin.List.listFitsIndex k) = true := by
    rw [fitsIndex_both h1 h2]
    exact Bool.false_ne_true
  have hlong : ¬ Builtin.List.listTooLong (its.toArray.size * k.toNat) = true := by
    rw [notLongL hlen]
    exact Bool.false_ne_true
  have hnew : List.foldl (fun x1 x2 => x1 ++ x2) #[] (List.replicate (if its.toArray.isEmpty = true then 0 else k.toNat) its.toArray) = (List.replicate k.toNat its).flatten.toArray := by
    have f0 : ∀ m : Nat, List.foldl (fun x1 x2 => x1 ++ x2) #[] (List.replicate m its.toArray) = (List.replicate m its).flatten.toArray := fun m => by
      have := foldl_rep its m []
      rw [List.nil_append] at this
      exact this
    rw [f0]
    cases its with
    | nil => simp
    | cons a r' => rw [if_neg (by simp)]
  refine wpAny_binaryOp_repeat_ref (T := "list") (U := "int") (by decide) ⟨_, e, rfl⟩ (fun s' => typeIs_int s' k t) noFill_list_mul F.fills_int_mul F.slot_int_rmul repeat_list F.slot_int_index.lookup
    (call_meets F.slot_int_rmul (typeIs_int s k t) F.entry_int_rmul (F.args_int_rmul_2 _ _) (int_rmul_listW k t l its.toArray n none sl)
      ⟨e, rfl, ⟨_, e, rfl⟩, call_meets F.slot_list_mul ⟨_, e, rfl⟩ F.entry_list_mul (F.args_list_mul_2 _ _) (list_mulW l its.toArray n none sl k t hfit hcap hlong) ⟨e, ?_⟩⟩)
  rw [hnew]
  exact ⟨.ref _, _, I.lnew (t' := s.toks) (r.rep k.toNat) (by rw [PyProof.Rows.lm_len_rep_flat, Nat.mul_comm]; exact hz), rfl, q _ I.fresh⟩
/-- a tuple times 1 is itself -/
theorem tuple_mul1 (l : Addr) (items : Array Value) (n : Nat) (dd : Option Addr) (sl : Array (Option Value)) (u : Tok) :
    Meets (Builtin.«tuple.__mul__» ⟨[.ref l, .int 1 u], []⟩) (fun _ R s => s.heap.get? l = some { cls := .type "tuple", dict := dd, data := .seq items n, slots := sl } ∧ R (.ok (.ret (Value.ref l))) s) :=
  .of_wp fun prog w A R s h => by
    obtain ⟨hp, g, d, tk, os⟩ := s
    obtain ⟨hl, h⟩ := h
    have f1 := AutoSeq1.idx_int
    have c1 : (items.isEmpty || (1 : Int) == 1) = true := by simp
    wp_walk using wpAny_loadPart' hl
    repeat (first
      | (refine wpAny_ite_false (by decide) ?_; wp_walk using wpAny_loadPart' hl)
      | (refine wpAny_ite_true (by simp) ?_; wp_walk using wpAny_loadPart' hl))
    exact ⟨_, rfl, h⟩
end
end Sx

namespace Sx
open PySem PySem.Spec PyProof.Rows L2

/-! ### operations over data -/
def mulOk (i j : Int) : Bool := decide (i.natAbs.log2 + j.natAbs.log2 < 1000000)
def addD : Dt → Dt → Option Dt
  | .int a, .int b => some (.int (a + b))
  | .str a, .str b => if a.length + b.length ≤ 100000 then some (.str (a ++ b)) else none
  | .tuple a, .tuple b => if a.length + b.length ≤ 100000 then some (.tuple (a ++ b)) else none
  | .list a, .list b => if a.length + b.length ≤ 100000 then some (.list (a ++ b)) else none
  | _, _ => none
def subD : Dt → Dt → Option Dt
  | .int a, .int b => some (.int (a - b))
  | _, _ => none
def mulD : Dt → Dt → Option Dt
  | .int a, .int b => if mulOk a b then some (.int (a * b)) else none
  | .list a, .int k => if k ≤ 1000 ∧ -1000 ≤ k ∧ a.length ≤ 1000 then some (.list (List.replicate k.toNat a).flatten) else none
  | .tuple a, .int k => if 1 ≤ k ∧ k ≤ 1000 ∧ a.length ≤ 1000 ∧ a ≠ [] then some (.tuple (List.replicate k.toNat a).flatten) else none
  | _, _ => none
def fdivD : Dt → Dt → Option Dt
  | .int a, .int b => if 0 < b ∧ b.natAbs.log2 < 9000 then some (.int (a / b)) else none
  | _, _ => none
def modD : Dt → Dt → Option Dt
  | .int a, .int b => if 0 < b then some (.int (a % b)) else none
  | _, _ => none
def powD : Dt → Dt → Option Dt
  | .int a, .int b => if 0 ≤ b ∧ b ≤ 1000000 ∧ a.natAbs < 2 ^ 64 then some (.int (a ^ b.toNat)) else none
  | _, _ => none
def eqD (d e : Dt) : Option Dt := if SeqAt.shaped d && SeqAt.shaped e then some (.bool (PyData.eqv d e)) else none
def neD (d e : Dt) : Option Dt := if SeqAt.shaped d && SeqAt.shaped e then some (.bool (!PyData.eqv d e)) else none
def cmpD (p : Int → Int → Bool) : Dt → Dt → Option Dt
  | .int a, .int b => some (.bool (p a b))
  | _, _ => none
abbrev ltD := cmpD fun a b => decide (a < b)
abbrev leD := cmpD fun a b => decide (a ≤ b)
abbrev gtD := cmpD fun a b => decide (b < a)
abbrev geD := cmpD fun a b => decide (b ≤ a)
def flatD : Dt → Bool
  | .none => true
  | .bool _ => true
  | .int _ => true
  | .str _ => true
  | _ => false
/-- is x one of the items -/
def inB (x : Dt) (ds : List Dt) : Bool := ds.any fun z => PyData.eqv z x
def inD' (neg : Bool) : Dt → Dt → Option Dt
  | x, .list ds => if SeqAt.shaped x && SeqAt.shaped (.list ds) then some (.bool (if neg then !inB x ds else inB x ds)) else none
  | x, .tuple ds => if flatD x && ds.all flatD then some (.bool (if neg then !inB x ds else inB x ds)) else none
  | _, _ => none
abbrev inD := inD' false
abbrev notInD := inD' true
def isNone : Dt → Bool
  | .none => true
  | _ => false
/-- is None; is True, is False -/
def isD' (neg : Bool) : Dt → Dt → Option Dt
  | x, .none => some (.bool (if neg then !isNone x else isNone x))
  | .bool a, .bool b => some (.bool (if neg then !(a == b) else a == b))
  | _, _ => none
abbrev isD := isD' false
abbrev isNotD := isD' true
def atD (ds : List Dt) (i : Int) : Option Dt := atI ds i
def ixD : Dt → Dt → Option Dt
  | .tuple ds, .int i => atD ds i
  | .list ds, .int i => atD ds i
  | .str z, .int i => if z.length ≤ 100000 then (atI z.cps.toList i).map fun c => .str ⟨#[c]⟩ else none
  | _, _ => none
def negD : Dt → Option Dt
  | .int a => some (.int (-a))
  | _ => none

section
variable {X : Cx}
theorem sz5 {n : Nat} (h : n ≤ 100000) : n ≤ sizeLine := Nat.le_trans h (by decide)
theorem sz6 {n : Nat} (h : n ≤ 1000000) : n ≤ sizeLine := Nat.le_trans h (by decide)
theorem DqAll.nil_iff {K : PySem.W.Frag} {F : Hp} {vs : List V} {ds : List Dt} (h : DqAll K F vs ds) : vs = [] ↔ ds = [] := by
  cases h <;> simp
theorem op_addD : OpR X (binaryOp .Add) (RD2 X.K addD) := by
  intro pins s σ H x y v u Q I rx ry h
  obtain ⟨F, d, e, z, sm, hx, hy, hg, q⟩ := h
  cases d <;> cases e <;> simp only [addD] at hg <;> try (cases hg; done)
  · obtain rfl := hx.int
    obtain rfl := hy.int
    cases hg
    exact op_add pins s σ H _ _ v u Q I rx ry ⟨_, _, rfl, rfl, end_int sm rfl q⟩
  · obtain rfl := hx.str
    obtain rfl := hy.str
    split at hg
    · cases hg
      rename_i hl
      exact op_add_str pins s σ H _ _ v u Q I rx ry ⟨_, _, rfl, rfl, sz5 hl, end_str sm rfl q⟩
    · cases hg
  · obtain ⟨a, xs, rfl, ha, da⟩ := hx.lst sm
    obtain ⟨b, ys, rfl, hb, db⟩ := hy.lst sm
    split at hg
    · cases hg
      rename_i hl
      exact op_catR pins s σ H _ _ v u Q I rx ry ⟨a, b, xs, ys, rfl, rfl, ha, hb, sz5 (by rw [da.length, db.length]; exact hl), fun p np => end_lst sm rfl (da.append db) np q⟩
    · cases hg
  · obtain ⟨a, xs, rfl, ha, da⟩ := hx.tup
    obtain ⟨b, ys, rfl, hb, db⟩ := hy.tup
    split at hg
    · cases hg
      rename_i hl
      refine op_catA pins s σ H _ _ v u Q I rx ry ⟨a, b, xs, ys, rfl, rfl, sqT_mono sm ha, sqT_mono sm hb, sz5 (by rw [da.length, db.length]; exact hl), fun e => ?_, fun _ e => ?_, fun _ _ p np => end_tup sm rfl (da.append db) np q⟩
      · rw [da.nil_iff] at e
        subst e
        exact q _ F H (.refl sm) (.tup hb db)
      · rw [db.nil_iff] at e
        subst e
        rw [List.append_nil] at q
        exact q _ F H (.refl sm) (.tup ha da)
    · cases hg
theorem op_subD : OpR X (binaryOp .Sub) (RD2 X.K subD) := by
  intro pins s σ H x y v u Q I rx ry h
  obtain ⟨F, d, e, z, sm, hx, hy, hg, q⟩ := h
  cases d <;> cases e <;> simp only [subD] at hg <;> try (cases hg; done)
  obtain rfl := hx.int
  obtain rfl := hy.int
  cases hg
  exact op_sub pins s σ H _ _ v u Q I rx ry ⟨_, _, rfl, rfl, end_int sm rfl q⟩
theorem mulOk_iff {i j : Int} (h : mulOk i j = true) : CMulW i j := by
  unfold mulOk at h
  have h := of_decide_eq_true h
  exact h
theorem rep1 {α : Type} (xs : List α) : (List.replicate (1 : Int).toNat xs).flatten = xs := by simp
theorem op_mulD : OpR X (binaryOp .Mult) (RD2 X.K mulD) := by
  intro pins s σ H x y v u Q I rx ry h
  obtain ⟨F, d, e, z, sm, hx, hy, hg, q⟩ := h
  cases d <;> cases e <;> simp only [mulD] at hg <;> try (cases hg; done)
  · obtain rfl := hx.int
    obtain rfl := hy.int
    split at hg
    · cases hg
      rename_i hl
      exact op_mulW pins s σ H _ _ v u Q I rx ry ⟨_, _, rfl, rfl, (mulOk_iff hl), end_int sm rfl q⟩
    · cases hg
  · obtain ⟨a, xs, rfl, ha, da⟩ := hx.lst sm
    obtain rfl := hy.int
    split at hg
    · cases hg
      rename_i k hl
      refine op_repR pins s σ H _ _ v u Q I rx ry ⟨a, k, xs, rfl, rfl, ha, by omega, by omega, ?_, fun p np => end_lst sm rfl (da.rep _) np q⟩
      rw [da.length]
      exact sz6 (Nat.le_trans (Nat.mul_le_mul hl.2.2 (show k.toNat ≤ 1000 by omega)) (by decide))
    · cases hg
  · obtain ⟨a, xs, rfl, ha, da⟩ := hx.tup
    obtain rfl := hy.int
    split at hg
    · cases hg
      rename_i k hl
      obtain ⟨h1, h2, h3, h4⟩ := hl
      by_cases hk : k = 1
      · subst hk
        rw [rep1] at q
        cases rx
        obtain ⟨t, rfl⟩ := ry
        obtain ⟨its, r, ⟨⟨cls, dd, data, sl⟩, ho, hc, n, hd⟩, hs⟩ := I.tuple (sqT_mono sm ha)
        simp only at hc hd
        subst hc hd
        refine wpAny_binaryOp_repeat_ref (T := "tuple") (U := "int") (by decide) ⟨_, ho, rfl⟩ (fun s' => typeIs_int s' 1 t) noFill_tuple_mul PySem.F.fills_int_mul PySem.F.slot_int_rmul repeat_tuple PySem.F.slot_int_index.lookup
          (call_meets PySem.F.slot_int_rmul (typeIs_int s 1 t) PySem.F.entry_int_rmul (PySem.F.args_int_rmul_2 _ _) (int_rmul_tuple 1 t a its.toArray n dd sl)
            ⟨ho, rfl, ⟨_, ho, rfl⟩, call_meets PySem.F.slot_tuple_mul ⟨_, ho, rfl⟩ PySem.F.entry_tuple_mul (PySem.F.args_tuple_mul_2 _ _) (tuple_mul1 a its.toArray n dd sl t) ⟨ho, ?_⟩⟩)
        exact ⟨.ref a, H, I, rfl, q _ F H (.refl sm) (.tup ha da)⟩
      · exact op_repT pins s σ H _ _ v u Q I rx ry ⟨a, k, xs, rfl, rfl, sqT_mono sm ha, fun e => h4 (da.nil_iff.mp e), by omega, h2, by rw [da.length]; exact h3, fun p np => end_tup sm rfl (da.rep _) np q⟩
    · cases hg
theorem op_fdivD : OpR X (binaryOp .FloorDiv) (RD2 X.K fdivD) := by
  intro pins s σ H x y v u Q I rx ry h
  obtain ⟨F, d, e, z, sm, hx, hy, hg, q⟩ := h
  cases d <;> cases e <;> simp only [fdivD] at hg <;> try (cases hg; done)
  obtain rfl := hx.int
  obtain rfl := hy.int
  split at hg
  · cases hg
    rename_i hl
    exact op_fdivW pins s σ H _ _ v u Q I rx ry ⟨_, _, rfl, rfl, hl, end_int sm rfl q⟩
  · cases hg
theorem op_modD : OpR X (binaryOp .Mod) (RD2 X.K modD) := by
  intro pins s σ H x y v u Q I rx ry h
  obtain ⟨F, d, e, z, sm, hx, hy, hg, q⟩ := h
  cases d <;> cases e <;> simp only [modD] at hg <;> try (cases hg; done)
  obtain rfl := hx.int
  obtain rfl := hy.int
  split at hg
  · cases hg
    rename_i hl
    exact op_mod pins s σ H _ _ v u Q I rx ry ⟨_, _, rfl, rfl, hl, end_int sm rfl q⟩
  · cases hg
theorem op_powD : OpR X (binaryOp .Pow) (RD2 X.K powD) := by
  intro pins s σ H x y v u Q I rx ry h
  obtain ⟨F, d, e, z, sm, hx, hy, hg, q⟩ := h
  cases d <;> cases e <;> simp only [powD] at hg <;> try (cases hg; done)
  obtain rfl := hx.int
  obtain rfl := hy.int
  split at hg
  · cases hg
    rename_i hl
    exact op_pow pins s σ H _ _ v u Q I rx ry ⟨_, _, rfl, rfl, hl, end_int sm rfl q⟩
  · cases hg
theorem op_eqQ (hu : X.A.units + 64 < cLine) : OpR X (compareOp .Eq) (RD2 X.K eqD) := by
  intro pins s σ H x y v u Q I rx ry h
  obtain ⟨F, d, e, z, sm, hx, hy, hg, q⟩ := h
  unfold eqD at hg
  split at hg
  · rename_i hs
    rw [Bool.and_eq_true] at hs
    cases hg
    exact op_eqD hu pins s σ H x y v u Q I rx ry ⟨d, e, hx.dp sm, hy.dp sm, hs.1, hs.2, end_bl sm rfl q⟩
  · cases hg
theorem op_neQ (hu : X.A.units + 64 < cLine) : OpR X (compareOp .NotEq) (RD2 X.K neD) := by
  intro pins s σ H x y v u Q I rx ry h
  obtain ⟨F, d, e, z, sm, hx, hy, hg, q⟩ := h
  unfold neD at hg
  split at hg
  · rename_i hs
    rw [Bool.and_eq_true] at hs
    cases hg
    exact op_neD hu pins s σ H x y v u Q I rx ry ⟨d, e, hx.dp sm, hy.dp sm, hs.1, hs.2, end_bl sm rfl q⟩
  · cases hg
theorem op_cmpD {op : CmpOp} {p : Int → Int → Bool} (ho : OpR X (compareOp op) (rI0 fun i j => .bl (p i j))) : OpR X (compareOp op) (RD2 X.K (cmpD p)) := by
  intro pins s σ H x y v u Q I rx ry h
  obtain ⟨F, d, e, z, sm, hx, hy, hg, q⟩ := h
  cases d <;> cases e <;> simp only [cmpD] at hg <;> try (cases hg; done)
  obtain rfl := hx.int
  obtain rfl := hy.int
  cases hg
  exact ho pins s σ H _ _ v u Q I rx ry ⟨_, _, rfl, rfl, end_bl sm rfl q⟩
theorem op_ltD : OpR X (compareOp .Lt) (RD2 X.K ltD) := op_cmpD op_lt
theorem op_leD : OpR X (compareOp .LtE) (RD2 X.K leD) := op_cmpD op_le
theorem op_gtD : OpR X (compareOp .Gt) (RD2 X.K gtD) := op_cmpD op_gt
theorem op_geD : OpR X (compareOp .GtE) (RD2 X.K geD) := op_cmpD op_ge
theorem flat_of {K : PySem.W.Frag} {F : Hp} {v : V} {d : Dt} (h : Dq K F v d) (f : flatD d = true) : flatV v = true := by
  cases h <;> first | rfl | cases f
theorem flats_of {K : PySem.W.Frag} {F : Hp} : ∀ {vs : List V} {ds : List Dt}, DqAll K F vs ds → ds.all flatD = true → vs.all flatV = true
  | _, _, .nil, _ => rfl
  | _, _, .cons h t, f => by
    rw [List.all_cons, Bool.and_eq_true] at f
    rw [List.all_cons, flat_of h f.1, flats_of t f.2]
    rfl
theorem eqv_flat {K : PySem.W.Frag} {F : Hp} {v u : V} {d e : Dt} (h : Dq K F v d) (g : Dq K F u e) (f : flatD d = true) (f' : flatD e = true) : eqV v u = PyData.eqv d e := by
  cases h <;> first | (cases f; done) | (cases g <;> first | (cases f'; done) | rfl | simp [eqV, PyData.eqv])
theorem inV_of {K : PySem.W.Frag} {F : Hp} {u : V} {e : Dt} (g : Dq K F u e) (f' : flatD e = true) : ∀ {vs : List V} {ds : List Dt}, DqAll K F vs ds → ds.all flatD = true → inV u vs = inB e ds
  | _, _, .nil, _ => rfl
  | _, _, .cons h t, f => by
    rw [List.all_cons, Bool.and_eq_true] at f
    unfold inV inB
    rw [List.any_cons, List.any_cons, eqv_flat h g f.1 f']
    have := inV_of g f' t f.2
    unfold inV inB at this
    rw [this]
theorem RB.flat {K : PySem.W.Frag} {F H : Hp} {v : V} {d : Dt} (h : RB K F H v d) (f : flatD d = true) : Dq K F v d := by
  rcases h with h | ⟨_, _, _, _, e, _⟩
  · exact h
  · subst e; cases f
theorem op_inQ (hu : X.A.units + 65 < cLine) : OpR X (compareOp .In) (RD2 X.K inD) := by
  intro pins s σ H x y v u Q I rx ry h
  obtain ⟨F, d, e, z, sm, hx, hy, hg, q⟩ := h
  cases e <;> simp only [inD'] at hg <;> try (cases hg; done)
  · split at hg
    · rename_i hs
      rw [Bool.and_eq_true] at hs
      cases hg
      exact op_inD hu pins s σ H x y v u Q I rx ry ⟨d, _, hx.dp sm, hy.dp sm, hs.1, hs.2, end_bl sm rfl q⟩
    · cases hg
  · split at hg
    · rename_i hs
      rw [Bool.and_eq_true] at hs
      cases hg
      obtain ⟨b, ys, rfl, hb, db⟩ := hy.tup
      have hx' := hx.flat hs.1
      refine op_in_seq pins s σ H x _ v u Q I rx ry ⟨b, ys, rfl, .inr (sqT_mono sm hb), flat_of hx' hs.1, flats_of db hs.2, ?_⟩
      exact end_bl sm (by rw [inV_of hx' hs.1 db hs.2] <;> simp) q
    · cases hg
theorem op_notInQ (hu : X.A.units + 65 < cLine) : OpR X (compareOp .NotIn) (RD2 X.K notInD) := by
  intro pins s σ H x y v u Q I rx ry h
  obtain ⟨F, d, e, z, sm, hx, hy, hg, q⟩ := h
  cases e <;> simp only [inD'] at hg <;> try (cases hg; done)
  · split at hg
    · rename_i hs
      rw [Bool.and_eq_true] at hs
      cases hg
      exact op_notInD hu pins s σ H x y v u Q I rx ry ⟨d, _, hx.dp sm, hy.dp sm, hs.1, hs.2, end_bl sm rfl q⟩
    · cases hg
  · split at hg
    · rename_i hs
      rw [Bool.and_eq_true] at hs
      cases hg
      obtain ⟨b, ys, rfl, hb, db⟩ := hy.tup
      have hx' := hx.flat hs.1
      refine op_notIn_seq pins s σ H x _ v u Q I rx ry ⟨b, ys, rfl, .inr (sqT_mono sm hb), flat_of hx' hs.1, flats_of db hs.2, ?_⟩
      exact end_bl sm (by rw [inV_of hx' hs.1 db hs.2] <;> simp) q
    · cases hg
theorem RB.isNone {K : PySem.W.Frag} {F H : Hp} {v : V} {d : Dt} (h : RB K F H v d) : decide (v = V.non) = Sx.isNone d := by
  rcases h with h | ⟨_, _, _, e, rfl, _⟩
  · cases h <;> rfl
  · subst e; rfl
theorem op_isQ : OpR X (compareOp .Is) (RD2 X.K isD) := by
  intro pins s σ H x y v u Q I rx ry h
  obtain ⟨F, d, e, z, sm, hx, hy, hg, q⟩ := h
  cases e with
  | none =>
    have hg' : some (PyData.bool (isNone d)) = some z := by cases d <;> exact hg
    cases hg'
    obtain rfl := hy.non
    exact op_isN pins s σ H x _ v u Q I rx ry ⟨rfl, by rw [hx.isNone]; exact end_bl sm rfl q⟩
  | bool b =>
    cases d <;> simp only [isD'] at hg <;> try (cases hg; done)
    cases hg
    obtain rfl := hx.bl
    obtain rfl := hy.bl
    refine op_isBl pins s σ H _ _ v u Q I rx ry ⟨_, _, rfl, rfl, end_bl sm ?_ q⟩
    cases b <;> simp
  | _ => cases d <;> simp only [isD'] at hg <;> cases hg
theorem op_isNotQ : OpR X (compareOp .IsNot) (RD2 X.K isNotD) := by
  intro pins s σ H x y v u Q I rx ry h
  obtain ⟨F, d, e, z, sm, hx, hy, hg, q⟩ := h
  cases e with
  | none =>
    have hg' : some (PyData.bool (!isNone d)) = some z := by cases d <;> exact hg
    cases hg'
    obtain rfl := hy.non
    exact op_notN pins s σ H x _ v u Q I rx ry ⟨rfl, by rw [hx.isNone]; exact end_bl sm rfl q⟩
  | bool b =>
    cases d <;> simp only [isD'] at hg <;> try (cases hg; done)
    cases hg
    obtain rfl := hx.bl
    obtain rfl := hy.bl
    refine op_notBl pins s σ H _ _ v u Q I rx ry ⟨_, _, rfl, rfl, end_bl sm ?_ q⟩
    cases b <;> simp
  | _ => cases d <;> simp only [isD'] at hg <;> cases hg
theorem atI_all {K : PySem.W.Frag} {F : Hp} {vs : List V} {ds : List Dt} {i : Int} {d : Dt} (a : DqAll K F vs ds) (h : atD ds i = some d) : ∃ v, atI vs i = some v ∧ Dq K F v d := by
  unfold atD atI at h
  unfold atI
  rw [a.length]
  cases e : ixN ds.length i with
  | none => rw [e] at h; cases h
  | some j =>
    rw [e] at h
    obtain ⟨v, h1, h2⟩ := a.getD (show ds[j]? = some d from h)
    exact ⟨v, h1, h2⟩
theorem ix_D : IxR X (RD2 X.K ixD) := by
  intro ve se pins s σ H x y v u Q I rx ry h hss
  obtain ⟨F, d, e, z, sm, hx, hy, hg, q⟩ := h
  cases d <;> cases e <;> simp only [ixD] at hg <;> try (cases hg; done)
  · obtain rfl := hx.str
    obtain rfl := hy.int
    split at hg
    · rename_i z' i hl
      cases e : atI z'.cps.toList i with
      | none => rw [e] at hg; cases hg
      | some c =>
        rw [e] at hg
        cases hg
        exact ix_str ve se pins s σ H _ _ v u Q I rx ry ⟨_, _, c, rfl, rfl, sz5 hl, e, end_str sm rfl q⟩ hss
    · cases hg
  · obtain ⟨a, xs, rfl, ha, da⟩ := hx.lst sm
    obtain rfl := hy.int
    obtain ⟨w, h1, h2⟩ := atI_all da hg
    exact ix_list ve se pins s σ H _ _ v u Q I rx ry ⟨a, xs, _, w, rfl, rfl, ha, h1, q w F H (.refl sm) h2⟩ hss
  · obtain ⟨a, xs, rfl, ha, da⟩ := hx.tup
    obtain rfl := hy.int
    obtain ⟨w, h1, h2⟩ := atI_all da hg
    exact ix_tup ve se pins s σ H _ _ v u Q I rx ry ⟨a, xs, _, w, rfl, rfl, sqT_mono sm ha, h1, q w F H (.refl sm) h2⟩ hss
theorem un_negD : UnR X (unaryOp .USub) (RD1 X.K negD) := by
  intro pins s σ H x v Q I rx h
  obtain ⟨F, d, z, sm, hx, hg, q⟩ := h
  cases d <;> simp only [negD] at hg <;> try (cases hg; done)
  obtain rfl := hx.int
  cases hg
  exact un_neg pins s σ H _ v Q I rx ⟨_, rfl, end_int sm rfl q⟩
end
end Sx

namespace Sx
open PySem PySem.Spec PyProof.Rows L2

/-! ### built-ins over data -/
def intsOf : List Dt → Option (List Int)
  | [] => some []
  | .int i :: r => (intsOf r).map (i :: ·)
  | _ => none
def blsOf : List Dt → Option (List Bool)
  | [] => some []
  | .bool i :: r => (blsOf r).map (i :: ·)
  | _ => none
def lenD : List Dt → Option Dt
  | [.list ds] => some (.int ds.length)
  | [.tuple ds] => some (.int ds.length)
  | [.str z] => if z.length ≤ 100000 then some (.int z.length) else none
  | _ => none
def sumD : List Dt → Option Dt
  | [.list ds] => (intsOf ds).map fun ns => .int ns.sum
  | _ => none
def allD : List Dt → Option Dt
  | [.list ds] => (blsOf ds).map fun bs => .bool (bs.all id)
  | _ => none
def anyD : List Dt → Option Dt
  | [.list ds] => (blsOf ds).map fun bs => .bool (bs.any id)
  | _ => none
def tupleD : List Dt → Option Dt
  | [.list ds] => some (.tuple ds)
  | [.tuple ds] => some (.tuple ds)
  | _ => none
def listL : List Dt → Option (List Dt)
  | [.list ds] => some ds
  | [.tuple ds] => some ds
  | _ => none
def absD : List Dt → Option Dt
  | [.int i] => some (.int (if i < 0 then -i else i))
  | _ => none
def intD : List Dt → Option Dt
  | [.int i] => some (.int i)
  | [.bool b] => some (.int (if b then 1 else 0))
  | _ => none
def max2D : List Dt → Option Dt
  | [.int i, .int j] => some (.int (if j > i then j else i))
  | _ => none
def min2D : List Dt → Option Dt
  | [.int i, .int j] => some (.int (if j < i then j else i))
  | _ => none
def strD : List Dt → Option Dt
  | [.int i] => if i.natAbs.log2 < 1920 then some (.str (toString i)) else none
  | _ => none
section
variable {K : PySem.W.Frag} {F H : Hp}
theorem RBs.one {vs : List V} {d : Dt} (h : RBs K F H vs [d]) : ∃ v, vs = [v] ∧ RB K F H v d := by
  cases h with
  | cons a b => cases b; exact ⟨_, rfl, a⟩
theorem RBs.two {vs : List V} {d e : Dt} (h : RBs K F H vs [d, e]) : ∃ v u, vs = [v, u] ∧ RB K F H v d ∧ RB K F H u e := by
  cases h with
  | cons a b =>
    cases b with
    | cons a' b' => cases b'; exact ⟨_, _, rfl, a, a'⟩
theorem ints_vs : ∀ {vs : List V} {ds : List Dt} {ns : List Int}, DqAll K F vs ds → intsOf ds = some ns → vs = ns.map V.int
  | _, _, ns, .nil, e => by cases e; rfl
  | _, _, ns, .cons (d := d) (ds := ds) h t, e => by
    cases h <;> simp only [intsOf] at e <;> try (cases e; done)
    cases q : intsOf ds with
    | none => rw [q] at e; cases e
    | some ms =>
      rw [q] at e
      cases e
      rw [ints_vs t q]
      rfl
theorem bls_vs : ∀ {vs : List V} {ds : List Dt} {ns : List Bool}, DqAll K F vs ds → blsOf ds = some ns → vs = ns.map V.bl
  | _, _, ns, .nil, e => by cases e; rfl
  | _, _, ns, .cons (d := d) (ds := ds) h t, e => by
    cases h <;> simp only [blsOf] at e <;> try (cases e; done)
    cases q : blsOf ds with
    | none => rw [q] at e; cases e
    | some ms =>
      rw [q] at e
      cases e
      rw [bls_vs t q]
      rfl
end
section
variable {X : Cx}
theorem cb_len : CallR X (.builtin "len") (RDC X.K lenD) := by
  intro pins s σ H xs us Q I r h
  obtain ⟨F, ds, z, sm, hx, hg, q⟩ := h
  rcases ds with _ | ⟨d, _ | ⟨e, ds⟩⟩
  · cases hg
  · obtain ⟨v, rfl, hv⟩ := hx.one
    cases d <;> simp only [lenD] at hg <;> try (cases hg; done)
    · obtain rfl := hv.str
      split at hg
      · cases hg
        rename_i hl
        exact call_len pins s σ H _ us Q I r ⟨_, _, rfl, ⟨sz5 hl, rfl⟩, end_int sm rfl q⟩
      · cases hg
    · cases hg
      obtain ⟨a, xs, rfl, ha, da⟩ := hv.lst sm
      exact call_len pins s σ H _ us Q I r ⟨_, _, rfl, .inl ⟨xs, ha, rfl⟩, end_int sm (by rw [da.length]) q⟩
    · cases hg
      obtain ⟨a, xs, rfl, ha, da⟩ := hv.tup
      exact call_len pins s σ H _ us Q I r ⟨_, _, rfl, .inr ⟨xs, sqT_mono sm ha, rfl⟩, end_int sm (by rw [da.length]) q⟩
  · cases d <;> cases hg
theorem cb_sum (hc : X.calm = true) : CallR X (.builtin "sum") (RDC X.K sumD) := by
  intro pins s σ H xs us Q I r h
  obtain ⟨F, ds, z, sm, hx, hg, q⟩ := h
  rcases ds with _ | ⟨d, _ | ⟨e, ds⟩⟩
  · cases hg
  · obtain ⟨v, rfl, hv⟩ := hx.one
    cases d <;> simp only [sumD] at hg <;> try (cases hg; done)
    rename_i xs'
    cases e : intsOf xs' with
    | none => rw [e] at hg; cases hg
    | some ns =>
      rw [e] at hg
      cases hg
      obtain ⟨a, xs, rfl, ha, da⟩ := hv.lst sm
      obtain rfl := ints_vs da e
      exact cr_sum hc pins s σ H _ us Q I r ⟨a, ns, rfl, ha, end_int sm rfl q⟩
  · cases d <;> cases hg
theorem cb_all (hc : X.calm = true) : CallR X (.builtin "all") (RDC X.K allD) := by
  intro pins s σ H xs us Q I r h
  obtain ⟨F, ds, z, sm, hx, hg, q⟩ := h
  rcases ds with _ | ⟨d, _ | ⟨e, ds⟩⟩
  · cases hg
  · obtain ⟨v, rfl, hv⟩ := hx.one
    cases d <;> simp only [allD] at hg <;> try (cases hg; done)
    rename_i xs'
    cases e : blsOf xs' with
    | none => rw [e] at hg; cases hg
    | some ns =>
      rw [e] at hg
      cases hg
      obtain ⟨a, xs, rfl, ha, da⟩ := hv.lst sm
      obtain rfl := bls_vs da e
      exact cr_all hc pins s σ H _ us Q I r ⟨a, ns, rfl, ha, end_bl sm rfl q⟩
  · cases d <;> cases hg
theorem cb_any (hc : X.calm = true) : CallR X (.builtin "any") (RDC X.K anyD) := by
  intro pins s σ H xs us Q I r h
  obtain ⟨F, ds, z, sm, hx, hg, q⟩ := h
  rcases ds with _ | ⟨d, _ | ⟨e, ds⟩⟩
  · cases hg
  · obtain ⟨v, rfl, hv⟩ := hx.one
    cases d <;> simp only [anyD] at hg <;> try (cases hg; done)
    rename_i xs'
    cases e : blsOf xs' with
    | none => rw [e] at hg; cases hg
    | some ns =>
      rw [e] at hg
      cases hg
      obtain ⟨a, xs, rfl, ha, da⟩ := hv.lst sm
      obtain rfl := bls_vs da e
      exact cr_any hc pins s σ H _ us Q I r ⟨a, ns, rfl, ha, end_bl sm rfl q⟩
  · cases d <;> cases hg
theorem ct_tuple : CallR X (.type "tuple") (RDC X.K tupleD) := by
  intro pins s σ H xs us Q I r h
  obtain ⟨F, ds, z, sm, hx, hg, q⟩ := h
  rcases ds with _ | ⟨d, _ | ⟨e, ds⟩⟩
  · cases hg
  · obtain ⟨v, rfl, hv⟩ := hx.one
    cases d <;> simp only [tupleD] at hg <;> try (cases hg; done)
    · cases hg
      obtain ⟨a, xs, rfl, ha, da⟩ := hv.lst sm
      exact call_tuple_of pins s σ H _ us Q I r ⟨a, xs, rfl, .inl ⟨ha, fun p np => end_tup sm rfl da np q⟩⟩
    · cases hg
      obtain ⟨a, xs, rfl, ha, da⟩ := hv.tup
      exact call_tuple_of pins s σ H _ us Q I r ⟨a, xs, rfl, .inr ⟨sqT_mono sm ha, q _ F H (.refl sm) (.tup ha da)⟩⟩
  · cases d <;> cases hg
theorem ct_list : CallR X (.type "list") (RLC X.K listL) := by
  intro pins s σ H xs us Q I r h
  obtain ⟨F, ds, z, sm, hx, hg, q⟩ := h
  rcases ds with _ | ⟨d, _ | ⟨e, ds⟩⟩
  · cases hg
  · obtain ⟨v, rfl, hv⟩ := hx.one
    cases d <;> simp only [listL] at hg <;> try (cases hg; done)
    · cases hg
      obtain ⟨a, xs, rfl, ha, da⟩ := hv.lst sm
      exact call_list_of pins s σ H _ us Q I r ⟨a, xs, rfl, .inl ha, fun p np => q p xs np da⟩
    · cases hg
      obtain ⟨a, xs, rfl, ha, da⟩ := hv.tup
      exact call_list_of pins s σ H _ us Q I r ⟨a, xs, rfl, .inr (sqT_mono sm ha), fun p np => q p xs np da⟩
  · cases d <;> cases hg
theorem cb_abs : CallR X (.builtin "abs") (RDC X.K absD) := by
  intro pins s σ H xs us Q I r h
  obtain ⟨F, ds, z, sm, hx, hg, q⟩ := h
  rcases ds with _ | ⟨d, _ | ⟨e, ds⟩⟩
  · cases hg
  · obtain ⟨v, rfl, hv⟩ := hx.one
    cases d <;> simp only [absD] at hg <;> try (cases hg; done)
    cases hg
    obtain rfl := hv.int
    exact call_abs pins s σ H _ us Q I r ⟨_, rfl, end_int sm rfl q⟩
  · cases d <;> cases hg
theorem ct_int : CallR X (.type "int") (RDC X.K intD) := by
  intro pins s σ H xs us Q I r h
  obtain ⟨F, ds, z, sm, hx, hg, q⟩ := h
  rcases ds with _ | ⟨d, _ | ⟨e, ds⟩⟩
  · cases hg
  · obtain ⟨v, rfl, hv⟩ := hx.one
    cases d <;> simp only [intD] at hg <;> try (cases hg; done)
    · cases hg
      obtain rfl := hv.bl
      exact call_int1 pins s σ H _ us Q I r (.inr ⟨_, rfl, end_int sm rfl q⟩)
    · cases hg
      obtain rfl := hv.int
      exact call_int1 pins s σ H _ us Q I r (.inl ⟨_, rfl, end_int sm rfl q⟩)
  · cases d <;> cases hg
theorem ct_str : CallR X (.type "str") (RDC X.K strD) := by
  intro pins s σ H xs us Q I r h
  obtain ⟨F, ds, z, sm, hx, hg, q⟩ := h
  rcases ds with _ | ⟨d, _ | ⟨e, ds⟩⟩
  · cases hg
  · obtain ⟨v, rfl, hv⟩ := hx.one
    cases d <;> simp only [strD] at hg <;> try (cases hg; done)
    split at hg
    · cases hg
      rename_i hl
      obtain rfl := hv.int
      exact call_str_int pins s σ H _ us Q I r ⟨_, rfl, hl, end_str sm rfl q⟩
    · cases hg
  · cases d <;> cases hg
theorem cb_max2 (hc : X.calm = true) : CallR X (.builtin "max") (RDC X.K max2D) := by
  intro pins s σ H xs us Q I r h
  obtain ⟨F, ds, z, sm, hx, hg, q⟩ := h
  rcases ds with _ | ⟨d, _ | ⟨e, _ | ⟨e2, ds⟩⟩⟩
  · cases hg
  · cases d <;> cases hg
  · obtain ⟨v, u, rfl, hv, hu⟩ := hx.two
    cases d <;> cases e <;> simp only [max2D] at hg <;> try (cases hg; done)
    cases hg
    obtain rfl := hv.int
    obtain rfl := hu.int
    exact call_max2 hc pins s σ H _ us Q I r ⟨_, _, rfl, end_int sm rfl q⟩
  · cases d <;> cases e <;> cases hg
theorem cb_min2 (hc : X.calm = true) : CallR X (.builtin "min") (RDC X.K min2D) := by
  intro pins s σ H xs us Q I r h
  obtain ⟨F, ds, z, sm, hx, hg, q⟩ := h
  rcases ds with _ | ⟨d, _ | ⟨e, _ | ⟨e2, ds⟩⟩⟩
  · cases hg
  · cases d <;> cases hg
  · obtain ⟨v, u, rfl, hv, hu⟩ := hx.two
    cases d <;> cases e <;> simp only [min2D] at hg <;> try (cases hg; done)
    cases hg
    obtain rfl := hv.int
    obtain rfl := hu.int
    exact call_min2 hc pins s σ H _ us Q I r ⟨_, _, rfl, end_int sm rfl q⟩
  · cases d <;> cases e <;> cases hg
end
/-- the type's name -/
def tyD : Dt → Option String
  | .none => some "NoneType"
  | .bool _ => some "bool"
  | .int _ => some "int"
  | .str _ => some "str"
  | .list _ => some "list"
  | .tuple _ => some "tuple"
  | _ => none
theorem RB.ty {K : PySem.W.Frag} {F H : Hp} {v : V} {d : Dt} {n : String} (h : RB K F H v d) (sm : Same F H) (e : tyD d = some n) : TyX K H v (.type n) := by
  cases d <;> simp only [tyD] at e <;> try (cases e; done)
  · obtain rfl := h.non; cases e; exact .base .non
  · obtain rfl := h.bl; cases e; exact .base (.bl _)
  · obtain rfl := h.int; cases e; exact .base (.int _)
  · obtain rfl := h.str; cases e; exact .base (.str _)
  · cases e
    obtain ⟨a, xs, rfl, (ha | ⟨o, ha⟩) | ⟨o, its, n, ha, hc, _⟩, da⟩ := h.lst sm
    · exact .base (.lst ha)
    · exact .base (.frz ha)
    · exact .kList ha hc
  · cases e
    obtain ⟨a, xs, rfl, ha, da⟩ := h.tup
    rcases sqT_mono sm ha with (ha | ⟨o, ha⟩) | ⟨o, its, n, ha, hc, _⟩
    · exact .base (.tup ha)
    · exact .fTuple ha
    · exact .kTuple ha hc
/-- isinstance(x, T), T a built-in type -/
def isiD (T : String) (d : Dt) : Option Dt := match tyD d with
  | some n => (kitB n T).map .bool
  | none => none
end Sx

namespace Sx
open PySem PySem.Spec PyProof.Rows L2

/-! ### expressions as functions of the slots -/
def eVar (i : Nat) : SE := fun ρ W => match ρ[i]? with
  | some (some (.d x)) => .ok (x, W)
  | _ => .bad
def eBor (i : Nat) : SE := fun ρ W => match ρ[i]? with
  | some (some (.d x)) => .ok (x, W)
  | some (some (.own xs)) => .ok (.list xs, W)
  | _ => .bad
def eC (x : Dt) : SE := fun _ W => .ok (x, W)
def eBin (g : Dt → Dt → Option Dt) (a b : SE) : SE := fun ρ W => (a ρ W).bind fun p => (b ρ p.2).bind fun q => ofO (g p.1 q.1) q.2
def eUn (g : Dt → Option Dt) (a : SE) : SE := fun ρ W => (a ρ W).bind fun p => ofO (g p.1) p.2
def aNil : SA := fun _ W => .ok ([], W)
def aCons (e : SE) (a : SA) : SA := fun ρ W => (e ρ W).bind fun p => (a ρ p.2).bind fun q => .ok (p.1 :: q.1, q.2)
def eTup (a : SA) : SE := fun ρ W => (a ρ W).bind fun p => if p.1.length ≤ 100000 then .ok (.tuple p.1, p.2) else .bad
def lLst (a : SA) : SA := fun ρ W => (a ρ W).bind fun p => if p.1.length ≤ 100000 then .ok p else .bad
def eFrz (f : SA) : SE := fun ρ W => (f ρ W).bind fun p => .ok (.list p.1, p.2)
def eCB (g : List Dt → Option Dt) (a : SA) : SE := fun ρ W => (a ρ W).bind fun p => ofO (g p.1) p.2
def lCB (g : List Dt → Option (List Dt)) (a : SA) : SA := fun ρ W => (a ρ W).bind fun p => ofO (g p.1) p.2
def asB : Dt → Option Bool
  | .bool b => some b
  | _ => none
def bOf (e : SE) : SB := fun ρ W => (e ρ W).bind fun p => ofO (asB p.1) p.2
def bAnd (a b : SB) : SB := fun ρ W => (a ρ W).bind fun p => if p.1 = true then b ρ p.2 else .ok (false, p.2)
def bOr (a b : SB) : SB := fun ρ W => (a ρ W).bind fun p => if p.1 = true then .ok (true, p.2) else b ρ p.2
def bNot (a : SB) : SB := fun ρ W => (a ρ W).bind fun p => .ok (!p.1, p.2)
def eAnd (a b : SE) : SE := fun ρ W => (bOf a ρ W).bind fun p => if p.1 = true then b ρ p.2 else .ok (.bool false, p.2)
def eOr (a b : SE) : SE := fun ρ W => (bOf a ρ W).bind fun p => if p.1 = true then .ok (.bool true, p.2) else b ρ p.2
def eNot (a : SE) : SE := fun ρ W => (bOf a ρ W).bind fun p => .ok (.bool (!p.1), p.2)
def eIf (c : SB) (a b : SE) : SE := fun ρ W => (c ρ W).bind fun p => if p.1 = true then a ρ p.2 else b ρ p.2
def lIf (c : SB) (a b : SA) : SA := fun ρ W => (c ρ W).bind fun p => if p.1 = true then a ρ p.2 else b ρ p.2
def eChain (g g' : Dt → Dt → Option Dt) (a b c : SE) : SE := fun ρ W => (a ρ W).bind fun p => (b ρ p.2).bind fun q => (ofO ((g p.1 q.1).bind asB) q.2).bind fun k =>
  if k.1 = true then (c ρ q.2).bind fun r => ofO (g' q.1 r.1) r.2 else .ok (.bool false, q.2)
section
variable {X : Cx} {XE : Str → Hp → Prop} {e a b c : Expr} {es : List Expr} {pos : Pos} {fa fb fc : SE} {ga : SA}
/-- args that are only read -/
def tAR (K : PySem.W.Frag) (XE : Str → Hp → Prop) (f : SA) : TA := fun σ H Q => ∃ G ρ W F, Rel K G ρ W σ F H ∧
  Pg XE G (f ρ W) fun ds W' => ∀ vs F' H', Same F F' → Rel K G ρ W' σ F' H' → (∀ F2 H2 W2, Same F' F2 → Rel K G ρ W2 σ F2 H2 → RBs K F2 H2 vs ds) → Q vs H'
theorem d_var {i : Nat} {x : Str} (h : PE X (.Name x pos) (tVar i)) : PE X (.Name x pos) (tE X.K XE (eVar i)) := by
  refine h.weak fun σ H Q ⟨G, ρ, W, F, R, p⟩ => ?_
  unfold eVar at p
  split at p
  · rename_i y hy
    obtain ⟨v, h1, h2⟩ := R.sl i _ hy
    exact ⟨v, h1, p v F H (.refl _) R h2⟩
  · exact p.elim
theorem d_bor {i : Nat} {x : Str} (h : PE X (.Name x pos) (tVar i)) : PE X (.Name x pos) (tR X.K XE (eBor i)) := by
  refine h.weak fun σ H Q ⟨G, ρ, W, F, R, p⟩ => ?_
  unfold eBor at p
  split at p
  · rename_i y hy
    obtain ⟨v, h1, h2⟩ := R.sl i _ hy
    exact ⟨v, h1, p v F H (.refl _) R fun F' H' W' s _ => .inl (Dq.mono h2 s)⟩
  · rename_i xs hy
    obtain ⟨v, h1, h2⟩ := R.sl i _ hy
    refine ⟨v, h1, p v F H (.refl _) R fun F' H' W' s R' => ?_⟩
    obtain ⟨v', h1', p', vs', e1, _, h3, h4⟩ := R'.sl i _ hy
    rw [h1] at h1'
    cases h1'
    exact .inr ⟨p', vs', xs, e1, rfl, h3, h4⟩
  · exact p.elim
theorem d_r (h : PE X e (tE X.K XE fa)) : PE X e (tR X.K XE fa) := by
  refine h.weak fun σ H Q ⟨G, ρ, W, F, R, p⟩ => ⟨G, ρ, W, F, R, p.mono fun d W' q v F' H' s R' hv => q v F' H' s R' fun F2 H2 W2 s2 _ => .inl (hv.mono s2)⟩
theorem d_c {v : V} {d : Dt} (h : PE X e (tC v)) (hd : ∀ F, Dq X.K F v d) : PE X e (tE X.K XE (eC d)) := by
  refine h.weak fun σ H Q ⟨G, ρ, W, F, R, p⟩ => ?_
  exact p v F H (.refl _) R (hd F)
theorem d_int {i : Int} {j : Nat} : PE X (.Constant (.int i) j pos) (tE X.K XE (eC (.int i))) := d_c pe_int fun _ => .int i
theorem d_str {i : Str} {j : Nat} : PE X (.Constant (.str i) j pos) (tE X.K XE (eC (.str i))) := d_c pe_str fun _ => .str i
theorem d_bl {i : Bool} {j : Nat} : PE X (.Constant (.bool i) j pos) (tE X.K XE (eC (.bool i))) := d_c pe_bl fun _ => .bl i
theorem d_non {j : Nat} : PE X (.Constant .none j pos) (tE X.K XE (eC .none)) := d_c pe_non fun _ => .non
theorem tOp_of {g : Dt → Dt → Option Dt} {σ : L2.St} {H : Hp} {Q : VK} (h : tE X.K XE (eBin g fa fb) σ H Q) : tOp (RD2 X.K g) (tR X.K XE fa) (tR X.K XE fb) σ H Q := by
  obtain ⟨G, ρ, W, F, R, p⟩ := h
  refine ⟨G, ρ, W, F, R, p.of_bind.mono fun d W1 q v F1 H1 s1 R1 st1 => ⟨G, ρ, W1, F1, R1, q.of_bind.mono fun e W2 q2 y F2 H2 s2 R2 st2 => ?_⟩⟩
  obtain ⟨z, hz, q3⟩ := q2.of_ofO
  exact ⟨F2, d, e, z, R2.fh, st1 F2 H2 W2 s2 R2, st2 F2 H2 W2 (.refl _) R2, hz, fun w F' H' g0 hw => q3 w F' H' ((s1.trans s2).trans g0.ff) (R2.grow g0) hw⟩
theorem d_bin {op : Operator} {g : Dt → Dt → Option Dt} (ho : OpR X (binaryOp op) (RD2 X.K g)) (ha : PE X a (tR X.K XE fa)) (hb : PE X b (tR X.K XE fb)) : PE X (.BinOp a op b pos) (tE X.K XE (eBin g fa fb)) :=
  (pe_op ho ha hb).weak fun _ _ _ => tOp_of
theorem d_cmp {op : CmpOp} {g : Dt → Dt → Option Dt} (ho : OpR X (compareOp op) (RD2 X.K g)) (ha : PE X a (tR X.K XE fa)) (hb : PE X b (tR X.K XE fb)) (hm : behindInMarks op b = false) : PE X (.Compare a [op] [b] pos) (tE X.K XE (eBin g fa fb)) :=
  (pe_cmpR ho ha hb hm).weak fun _ _ _ => tOp_of
theorem d_ix {g : Dt → Dt → Option Dt} (ho : IxR X (RD2 X.K g)) (ha : PE X a (tR X.K XE fa)) (hb : PE X b (tR X.K XE fb)) (hs : PlainIx b) : PE X (.Subscript a b pos) (tE X.K XE (eBin g fa fb)) :=
  (pe_ix ho ha hb hs).weak fun _ _ _ => tOp_of
theorem d_un {op : UnaryOp} {g : Dt → Option Dt} (ho : UnR X (unaryOp op) (RD1 X.K g)) (ha : PE X a (tR X.K XE fa)) : PE X (.UnaryOp op a pos) (tE X.K XE (eUn g fa)) := by
  refine (pe_un ho ha).weak fun σ H Q ⟨G, ρ, W, F, R, p⟩ => ?_
  refine ⟨G, ρ, W, F, R, p.of_bind.mono fun d W1 q v F1 H1 s1 R1 st1 => ?_⟩
  obtain ⟨z, hz, q3⟩ := q.of_ofO
  exact ⟨F1, d, z, R1.fh, st1 F1 H1 W1 (.refl _) R1, hz, fun w F' H' g0 hw => q3 w F' H' (s1.trans g0.ff) (R1.grow g0) hw⟩
/-! tests -/
theorem test_of {σ : L2.St} {H : Hp} {Q : Bool → Hp → Prop} (h : tT X.K XE (bOf fa) σ H Q) : tE X.K XE fa σ H fun x H' => ∃ k, x = .bl k ∧ Q k H' := by
  obtain ⟨G, ρ, W, F, R, p⟩ := h
  refine ⟨G, ρ, W, F, R, p.of_bind.mono fun d W1 q v F1 H1 s1 R1 hv => ?_⟩
  obtain ⟨k, hk, q3⟩ := q.of_ofO
  cases d <;> simp only [asB] at hk <;> try (cases hk; done)
  cases hk
  cases hv
  exact ⟨_, rfl, q3 F1 H1 s1 R1⟩
theorem c_val (h : PE X e (tE X.K XE fa)) (he : ∀ whole, isTrue e X.env whole = (do let v ← whole; standAt e.pos; holding [v] (truthy v)) := by intro _; rfl) : PT X e (tT X.K XE (bOf fa)) :=
  (pt_val h he).weak fun _ _ _ => test_of
theorem c_cmp {op : CmpOp} {g : Dt → Dt → Option Dt} (ho : OpR X (compareOp op) (RD2 X.K g)) (ha : PE X a (tR X.K XE fa)) (hb : PE X b (tR X.K XE fb)) (hm : behindInMarks op b = false) : PT X (.Compare a [op] [b] pos) (tT X.K XE (bOf (eBin g fa fb))) :=
  (pt_cmpR ho ha hb hm).weak fun _ _ _ h => tOp_of (test_of h)
variable {ba bb : SB} {rest : List Expr}
theorem c_and1 (ha : PT X a (tT X.K XE ba)) : PW X (.BoolOp .And [a] pos) (tT X.K XE ba) := pw_and1 ha
theorem c_or1 (ha : PT X a (tT X.K XE ba)) : PW X (.BoolOp .Or [a] pos) (tT X.K XE ba) := pw_or1 ha
theorem c_and (ha : PT X a (tT X.K XE ba)) (hb : PW X (.BoolOp .And (b :: rest) pos) (tT X.K XE bb)) : PW X (.BoolOp .And (a :: b :: rest) pos) (tT X.K XE (bAnd ba bb)) := by
  refine (pw_and ha hb).weak fun σ H Q ⟨G, ρ, W, F, R, p⟩ => ?_
  refine ⟨G, ρ, W, F, R, p.of_bind.mono fun d W1 q F1 H1 s1 R1 => ?_⟩
  cases d with
  | true => exact ⟨G, ρ, W1, F1, R1, Pg.mono q fun k W2 q2 F2 H2 s2 R2 => q2 F2 H2 (s1.trans s2) R2⟩
  | false => exact q F1 H1 s1 R1
theorem c_or (ha : PT X a (tT X.K XE ba)) (hb : PW X (.BoolOp .Or (b :: rest) pos) (tT X.K XE bb)) : PW X (.BoolOp .Or (a :: b :: rest) pos) (tT X.K XE (bOr ba bb)) := by
  refine (pw_or ha hb).weak fun σ H Q ⟨G, ρ, W, F, R, p⟩ => ?_
  refine ⟨G, ρ, W, F, R, p.of_bind.mono fun d W1 q F1 H1 s1 R1 => ?_⟩
  cases d with
  | false => exact ⟨G, ρ, W1, F1, R1, Pg.mono q fun k W2 q2 F2 H2 s2 R2 => q2 F2 H2 (s1.trans s2) R2⟩
  | true => exact q F1 H1 s1 R1
theorem c_not (ha : PT X a (tT X.K XE ba)) : PT X (.UnaryOp .Not a pos) (tT X.K XE (bNot ba)) := by
  refine (pt_not ha).weak fun σ H Q ⟨G, ρ, W, F, R, p⟩ => ?_
  exact ⟨G, ρ, W, F, R, p.of_bind.mono fun d W1 q F1 H1 s1 R1 => q F1 H1 s1 R1⟩
/-! and, or, not as values -/
theorem bl_of {σ : L2.St} {H : Hp} {G : Gh} {ρ : Sl} {W : Tw} {F : Hp} {β : Type} {k : Bool × Tw → Res (β × Tw)} {P : β → Tw → Prop} {Q : VK} (R : Rel X.K G ρ W σ F H) (p : Pg XE G ((bOf fa ρ W).bind k) P)
    (hq : ∀ (d : Bool) W1 F1 H1, Same F F1 → Rel X.K G ρ W1 σ F1 H1 → Pg XE G (k (d, W1)) P → Q (.bl d) H1) : tE X.K XE fa σ H Q := by
  refine ⟨G, ρ, W, F, R, p.of_bind.of_bind.mono fun d W1 q v F1 H1 s1 R1 hv => ?_⟩
  obtain ⟨b, hb, q2⟩ := q.of_ofO
  cases d <;> simp only [asB] at hb <;> try (cases hb; done)
  cases hb
  cases hv
  exact hq _ W1 F1 H1 s1 R1 q2
theorem d_one {op} (h : PE X a (tE X.K XE fa)) : PE X (.BoolOp op [a] pos) (tE X.K XE fa) := pe_one h
theorem d_and (ha : PE X a (tE X.K XE fa)) (hb : PE X (.BoolOp .And (b :: rest) pos) (tE X.K XE fb)) : PE X (.BoolOp .And (a :: b :: rest) pos) (tE X.K XE (eAnd fa fb)) := by
  refine (pe_and ha hb).weak fun σ H Q ⟨G, ρ, W, F, R, p⟩ => bl_of R p fun d W1 F1 H1 s1 R1 q => ⟨d, rfl, ?_⟩
  cases d with
  | true => exact ⟨G, ρ, W1, F1, R1, Pg.mono q fun k W2 q2 v F2 H2 s2 R2 => q2 v F2 H2 (s1.trans s2) R2⟩
  | false => exact q _ F1 H1 s1 R1 (.bl false)
theorem d_or (ha : PE X a (tE X.K XE fa)) (hb : PE X (.BoolOp .Or (b :: rest) pos) (tE X.K XE fb)) : PE X (.BoolOp .Or (a :: b :: rest) pos) (tE X.K XE (eOr fa fb)) := by
  refine (pe_or ha hb).weak fun σ H Q ⟨G, ρ, W, F, R, p⟩ => bl_of R p fun d W1 F1 H1 s1 R1 q => ⟨d, rfl, ?_⟩
  cases d with
  | false => exact ⟨G, ρ, W1, F1, R1, Pg.mono q fun k W2 q2 v F2 H2 s2 R2 => q2 v F2 H2 (s1.trans s2) R2⟩
  | true => exact q _ F1 H1 s1 R1 (.bl true)
theorem d_not (ha : PE X a (tE X.K XE fa)) : PE X (.UnaryOp .Not a pos) (tE X.K XE (eNot fa)) := by
  refine (pe_not ha).weak fun σ H Q ⟨G, ρ, W, F, R, p⟩ => bl_of R p fun d W1 F1 H1 s1 R1 q => ⟨d, rfl, ?_⟩
  exact q _ F1 H1 s1 R1 (.bl _)
theorem d_if (hc : PT X c (tT X.K XE ba)) (ha : PE X a (tE X.K XE fa)) (hb : PE X b (tE X.K XE fb)) : PE X (.IfExp c a b pos) (tE X.K XE (eIf ba fa fb)) := by
  refine (pe_ifExp hc ha hb).weak fun σ H Q ⟨G, ρ, W, F, R, p⟩ => ?_
  refine ⟨G, ρ, W, F, R, p.of_bind.mono fun d W1 q F1 H1 s1 R1 => ?_⟩
  cases d with
  | true => exact ⟨G, ρ, W1, F1, R1, Pg.mono q fun k W2 q2 v F2 H2 s2 R2 => q2 v F2 H2 (s1.trans s2) R2⟩
  | false => exact ⟨G, ρ, W1, F1, R1, Pg.mono q fun k W2 q2 v F2 H2 s2 R2 => q2 v F2 H2 (s1.trans s2) R2⟩
theorem chain_of {g g' : Dt → Dt → Option Dt} {σ : L2.St} {H : Hp} {Q : VK} (h : tE X.K XE (eChain g g' fa fb fc) σ H Q) : tChain (RD2 X.K g) (RD2 X.K g') (tR X.K XE fa) (tR X.K XE fb) (tR X.K XE fc) σ H Q := by
  obtain ⟨G, ρ, W, F, R, p⟩ := h
  refine ⟨G, ρ, W, F, R, p.of_bind.mono fun d W1 q v F1 H1 s1 R1 st1 => ⟨G, ρ, W1, F1, R1, q.of_bind.mono fun e W2 q2 y F2 H2 s2 R2 st2 => ?_⟩⟩
  obtain ⟨k, hk, q3⟩ := q2.of_bind.of_ofO
  cases hz : g d e with
  | none => rw [hz] at hk; cases hk
  | some z =>
    rw [hz] at hk
    have hk' : asB z = some k := hk
    cases z <;> simp only [asB] at hk' <;> try (cases hk'; done)
    cases hk'
    refine ⟨F2, d, e, _, R2.fh, st1 F2 H2 W2 s2 R2, st2 F2 H2 W2 (.refl _) R2, hz, fun w F' H' g0 hw => ?_⟩
    cases hw
    refine ⟨_, rfl, ?_⟩
    cases k with
    | true =>
      refine ⟨G, ρ, W2, F', R2.grow g0, q3.of_bind.mono fun r W3 q4 u F3 H3 s3 R3 st3 => ?_⟩
      obtain ⟨z', hz', q5⟩ := q4.of_ofO
      exact ⟨F3, e, r, z', R3.fh, st2 F3 H3 W3 (g0.ff.trans s3) R3, st3 F3 H3 W3 (.refl _) R3, hz', fun w F4 H4 g4 hw => q5 w F4 H4 ((((s1.trans s2).trans g0.ff).trans s3).trans g4.ff) (R3.grow g4) hw⟩
    | false => exact q3 _ F' H' ((s1.trans s2).trans g0.ff) (R2.grow g0) (.bl false)
theorem d_chain {op op' : CmpOp} {g g' : Dt → Dt → Option Dt} (ho : OpR X (compareOp op) (RD2 X.K g)) (ho' : OpR X (compareOp op') (RD2 X.K g')) (ha : PE X a (tR X.K XE fa)) (hb : PE X b (tR X.K XE fb)) (hc : PE X c (tR X.K XE fc))
    (hm : lastMarks [op, op'] [b, c] = false := by with_unfolding_all rfl) : PE X (.Compare a [op, op'] [b, c] pos) (tE X.K XE (eChain g g' fa fb fc)) := (pe_chain ho ho' ha hb hc hm).weak fun _ _ _ => chain_of
theorem c_chain {op op' : CmpOp} {g g' : Dt → Dt → Option Dt} (ho : OpR X (compareOp op) (RD2 X.K g)) (ho' : OpR X (compareOp op') (RD2 X.K g')) (ha : PE X a (tR X.K XE fa)) (hb : PE X b (tR X.K XE fb)) (hc : PE X c (tR X.K XE fc))
    (hm : lastMarks [op, op'] [b, c] = false := by with_unfolding_all rfl) : PT X (.Compare a [op, op'] [b, c] pos) (tT X.K XE (bOf (eChain g g' fa fb fc))) := (pt_chain ho ho' ha hb hc hm).weak fun _ _ _ h => chain_of (test_of h)
/-! arguments -/
theorem a_nil : PA X [] (tA X.K XE aNil) := pa_nil.weak fun σ H Q ⟨G, ρ, W, F, R, p⟩ => p [] F H (.refl _) R .nil
theorem a_cons (ha : PE X e (tE X.K XE fa)) (hr : PA X es (tA X.K XE ga)) (hs : starEach (e :: es) X.env = (false, eval e X.env) :: starEach es X.env := by rfl) : PA X (e :: es) (tA X.K XE (aCons fa ga)) := by
  refine (pa_cons ha hr hs).weak fun σ H Q ⟨G, ρ, W, F, R, p⟩ => ?_
  exact ⟨G, ρ, W, F, R, p.of_bind.mono fun d W1 q v F1 H1 s1 R1 hv => ⟨G, ρ, W1, F1, R1, q.of_bind.mono fun ds W2 q2 vs F2 H2 s2 R2 hvs => q2 _ F2 H2 (s1.trans s2) R2 (.cons (hv.mono s2) hvs)⟩⟩
theorem r_nil : PA X [] (tAR X.K XE aNil) := pa_nil.weak fun σ H Q ⟨G, ρ, W, F, R, p⟩ => p [] F H (.refl _) R fun _ _ _ _ _ => .nil
theorem r_cons (ha : PE X e (tR X.K XE fa)) (hr : PA X es (tAR X.K XE ga)) (hs : starEach (e :: es) X.env = (false, eval e X.env) :: starEach es X.env := by rfl) : PA X (e :: es) (tAR X.K XE (aCons fa ga)) := by
  refine (pa_cons ha hr hs).weak fun σ H Q ⟨G, ρ, W, F, R, p⟩ => ?_
  exact ⟨G, ρ, W, F, R, p.of_bind.mono fun d W1 q v F1 H1 s1 R1 hv => ⟨G, ρ, W1, F1, R1, q.of_bind.mono fun ds W2 q2 vs F2 H2 s2 R2 hvs => q2 _ F2 H2 (s1.trans s2) R2 fun F3 H3 W3 s3 R3 => .cons (hv F3 H3 W3 (s2.trans s3) R3) (hvs F3 H3 W3 s3 R3)⟩⟩
theorem d_tup {x1} (h : PA X es (tA X.K XE ga)) : PE X (.Tuple es x1 pos) (tE X.K XE (eTup ga)) := by
  refine (pe_tup h).weak fun σ H Q ⟨G, ρ, W, F, R, p⟩ => ?_
  refine ⟨G, ρ, W, F, R, p.of_bind.mono fun ds W1 q vs F1 H1 s1 R1 hv => ?_⟩
  by_cases hl : ds.length ≤ 100000
  · have q' : ∀ v F' H', Same F F' → Rel X.K G ρ W1 σ F' H' → Dq X.K F' v (.tuple ds) → Q v H' := by
      have q1 := q
      simp only [hl, if_true] at q1
      exact q1
    refine ⟨sz5 (by rw [hv.length]; exact hl), fun np hp => ?_⟩
    have g : Gr0 F1 H1 (upd F1 np (.tup vs)) (upd H1 np (.tup vs)) := .new R1.fh hp
    exact q' _ _ _ (s1.trans g.ff) (R1.grow g) (.tup (.inl (.inl upd_same)) (hv.mono g.ff))
  · simp only [hl, if_false] at q
    exact q.elim
theorem l_lst (h : PA X es (tA X.K XE ga)) : PE X (.List es pos) (tL X.K XE (lLst ga)) := by
  refine (pe_lst h).weak fun σ H Q ⟨G, ρ, W, F, R, p⟩ => ?_
  refine ⟨G, ρ, W, F, R, p.of_bind.mono fun ds W1 q vs F1 H1 s1 R1 hv => ?_⟩
  by_cases hl : ds.length ≤ 100000
  · simp only [hl, if_true] at q
    refine ⟨sz5 (by rw [hv.length]; exact hl), fun np hp => ?_⟩
    have g : Gr0 F1 H1 F1 (upd H1 np (.lst vs)) := .newH R1.fh hp
    exact q np vs F1 _ s1 (R1.grow g) (R1.fresh hp) upd_same (R1.fh.free hp) hv
  · simp only [hl, if_false] at q
    exact q.elim
/-- a new list, told to all -/
theorem d_frz (h : PE X e (tL X.K XE ga)) : PE X e (tE X.K XE (eFrz ga)) := by
  refine h.weak fun σ H Q ⟨G, ρ, W, F, R, p⟩ => ⟨G, ρ, W, F, R, p.of_bind.mono fun ds W1 q np vs F1 H1 s1 R1 fr hp hF hv => ?_⟩
  have sF : Same F1 (upd F1 np (.lst vs)) := same_new hF
  exact q _ (upd F1 np (.lst vs)) H1 (s1.trans sF) (R1.freeze hp hF fr) (.lst (.inl (.inl upd_same)) (hv.mono sF))
theorem l_if {gb : SA} (hc : PT X c (tT X.K XE ba)) (ha : PE X a (tL X.K XE ga)) (hb : PE X b (tL X.K XE gb)) : PE X (.IfExp c a b pos) (tL X.K XE (lIf ba ga gb)) := by
  refine (pe_ifExp hc ha hb).weak fun σ H Q ⟨G, ρ, W, F, R, p⟩ => ?_
  refine ⟨G, ρ, W, F, R, p.of_bind.mono fun d W1 q F1 H1 s1 R1 => ?_⟩
  cases d with
  | true => exact ⟨G, ρ, W1, F1, R1, Pg.mono q fun k W2 q2 np vs F2 H2 s2 R2 => q2 np vs F2 H2 (s1.trans s2) R2⟩
  | false => exact ⟨G, ρ, W1, F1, R1, Pg.mono q fun k W2 q2 np vs F2 H2 s2 R2 => q2 np vs F2 H2 (s1.trans s2) R2⟩
/-! calls of built-ins -/
theorem tCB_of {g : List Dt → Option Dt} {σ : L2.St} {H : Hp} {Q : VK} (h : tE X.K XE (eCB g ga) σ H Q) : tCB (RDC X.K g) (tAR X.K XE ga) σ H Q := by
  obtain ⟨G, ρ, W, F, R, p⟩ := h
  refine ⟨G, ρ, W, F, R, p.of_bind.mono fun ds W1 q vs F1 H1 s1 R1 st => ?_⟩
  obtain ⟨z, hz, q3⟩ := q.of_ofO
  exact ⟨F1, ds, z, R1.fh, st F1 H1 W1 (.refl _) R1, hz, fun w F' H' g0 hw => q3 w F' H' (s1.trans g0.ff) (R1.grow g0) hw⟩
theorem lCB_of {g : List Dt → Option (List Dt)} {σ : L2.St} {H : Hp} {Q : VK} (h : tL X.K XE (lCB g ga) σ H Q) : tCB (RLC X.K g) (tAR X.K XE ga) σ H Q := by
  obtain ⟨G, ρ, W, F, R, p⟩ := h
  refine ⟨G, ρ, W, F, R, p.of_bind.mono fun ds W1 q vs F1 H1 s1 R1 st => ?_⟩
  obtain ⟨z, hz, q3⟩ := q.of_ofO
  refine ⟨F1, ds, z, R1.fh, st F1 H1 W1 (.refl _) R1, hz, fun np us hp hv => ?_⟩
  have g : Gr0 F1 H1 F1 (upd H1 np (.lst us)) := .newH R1.fh hp
  exact q3 np us F1 _ s1 (R1.grow g) (R1.fresh hp) upd_same (R1.fh.free hp) hv
variable {x : Str} {p : Pos} {id : String}
theorem d_callB {g : List Dt → Option Dt} (hc : CallR X (.builtin id) (RDC X.K g)) (hg : Gl X x) (hm : X.mg x = none) (hv : bootBuiltins x = some (.builtin id)) (ha : PA X (e :: es) (tAR X.K XE ga)) (hn : x ≠ "__name__" := by decide) (hdb : (x == ("__debug__" : Str)) = false := by decide)
    (he : starEach (e :: es) X.env = (false, eval e X.env) :: starEach es X.env := by rfl) (hpl : (backTo pos (starEach es X.env)).any (·.1) = false := by rfl) : PE X (.Call (.Name x p) (e :: es) [] pos) (tE X.K XE (eCB g ga)) := (pe_callB hc hg hm hv ha hn hdb he hpl).weak fun _ _ _ => tCB_of
theorem d_callTy {g : List Dt → Option Dt} (hc : CallR X (.type id) (RDC X.K g)) (hg : Gl X x) (hm : X.mg x = none) (hv : bootBuiltins x = some (.type id)) (ha : PA X (e :: es) (tAR X.K XE ga)) (hn : x ≠ "__name__" := by decide) (hdb : (x == ("__debug__" : Str)) = false := by decide)
    (he : starEach (e :: es) X.env = (false, eval e X.env) :: starEach es X.env := by rfl) (hpl : (backTo pos (starEach es X.env)).any (·.1) = false := by rfl) : PE X (.Call (.Name x p) (e :: es) [] pos) (tE X.K XE (eCB g ga)) := (pe_callTy hc hg hm hv ha hn hdb he hpl).weak fun _ _ _ => tCB_of
theorem l_callTy {g : List Dt → Option (List Dt)} (hc : CallR X (.type id) (RLC X.K g)) (hg : Gl X x) (hm : X.mg x = none) (hv : bootBuiltins x = some (.type id)) (ha : PA X (e :: es) (tAR X.K XE ga)) (hn : x ≠ "__name__" := by decide) (hdb : (x == ("__debug__" : Str)) = false := by decide)
    (he : starEach (e :: es) X.env = (false, eval e X.env) :: starEach es X.env := by rfl) (hpl : (backTo pos (starEach es X.env)).any (·.1) = false := by rfl) : PE X (.Call (.Name x p) (e :: es) [] pos) (tL X.K XE (lCB g ga)) := (pe_callTy hc hg hm hv ha hn hdb he hpl).weak fun _ _ _ => lCB_of
/-- isinstance(e, T), T a built-in type's name -/
theorem d_isi {n : String} {t : Str} {pt : Pos} (hg : Gl X "isinstance") (hm : X.mg "isinstance" = none) (hgt : Gl X t) (hmt : X.mg t = none) (hvt : bootBuiltins t = some (.type n)) (ha : PE X a (tR X.K XE fa)) (hn : t ≠ "__name__" := by decide) (hdt : (t == ("__debug__" : Str)) = false := by decide)
    (he : starEach [a, .Name t pt] X.env = (false, eval a X.env) :: starEach [.Name t pt] X.env := by rfl) (he2 : starEach [.Name t pt] X.env = (false, eval (.Name t pt) X.env) :: starEach [] X.env := by rfl) (hpl : (backTo pos (starEach [.Name t pt] X.env)).any (·.1) = false := by rfl) :
    PE X (.Call (.Name "isinstance" p) [a, .Name t pt] [] pos) (tE X.K XE (eUn (isiD n) fa)) := by
  refine (pe_callB call_isi hg hm (by decide +kernel) (pa_cons ha (pa_cons (pe_bltn (v := .ty n) hgt hmt hvt rfl hn hdt) pa_nil he2) he) (by decide) (by decide) he hpl).weak fun σ H Q ⟨G, ρ, W, F, R, p⟩ => ?_
  refine ⟨G, ρ, W, F, R, p.of_bind.mono fun d W1 q v F1 H1 s1 R1 st1 => ?_⟩
  obtain ⟨z, hz, q3⟩ := q.of_ofO
  have rb := st1 F1 H1 W1 (.refl _) R1
  unfold isiD at hz
  cases ht : tyD d with
  | none => rw [ht] at hz; cases hz
  | some m =>
    rw [ht] at hz
    cases hk : kitB m n with
    | none => simp only [hk] at hz; cases hz
    | some b =>
      simp only [hk] at hz
      cases hz
      exact ⟨v, .ty n, .type m, .type n, b, rfl, .ty n, rb.ty R1.fh ht, kit_ty hk, q3 _ F1 H1 s1 R1 (.bl b)⟩
end
end Sx

namespace Sx
open PySem PySem.Spec PyProof.Rows L2

/-! ### slices -/
def cutD (xs : List Dt) (lo hi : Option Int) : List Dt := (xs.drop (HT.sIx xs.length 0 lo)).take (HT.sIx xs.length xs.length hi - HT.sIx xs.length 0 lo)
def sliceD (d : Dt) (lo hi : Option Int) : Option Dt := match d with
  | .tuple ds => some (.tuple (cutD ds lo hi))
  | .list ds => some (.list (cutD ds lo hi))
  | .str z => if z.length ≤ 100000 then some (.str (cutS z lo hi)) else none
  | _ => none
abbrev SO := Sl → Tw → Res (Option Int × Tw)
def oNone : SO := fun _ W => .ok (none, W)
def asI : Dt → Option Int
  | .int i => some i
  | _ => none
def oSome (e : SE) : SO := fun ρ W => (e ρ W).bind fun p => ofO ((asI p.1).map some) p.2
def eSlice (e : SE) (lo hi : SO) : SE := fun ρ W => (e ρ W).bind fun p => (lo ρ p.2).bind fun l => (hi ρ l.2).bind fun h => ofO (sliceD p.1 l.1 h.1) h.2
def tO (K : PySem.W.Frag) (XE : Str → Hp → Prop) (f : SO) : TO := fun σ H Q => ∃ G ρ W F, Rel K G ρ W σ F H ∧
  Pg XE G (f ρ W) fun o W' => ∀ F' H', Same F F' → Rel K G ρ W' σ F' H' → Q o H'
theorem DqAll.cut {K : PySem.W.Frag} {F : Hp} {vs : List V} {ds : List Dt} (h : DqAll K F vs ds) (lo hi : Option Int) : DqAll K F (cutV vs lo hi) (cutD ds lo hi) := by
  unfold cutV cutD
  rw [h.length]
  exact (h.drop _).take _
section
variable {X : Cx} {XE : Str → Hp → Prop} {e a b c : Expr} {es : List Expr} {pos p2 : Pos} {fa fb fc : SE} {ga gb : SA} {lo hi : Option Expr} {fl fh : SO}
theorem o_none : PO X none (tO X.K XE oNone) := ⟨fun pins s σ H Q I ⟨G, ρ, W, F, R, p⟩ => po_none.run pins s σ H Q I (p F H (.refl _) R)⟩
theorem o_some (h : PE X e (tE X.K XE fa)) : PO X (some e) (tO X.K XE (oSome fa)) := ⟨fun pins s σ H Q I ⟨G, ρ, W, F, R, p⟩ => (po_some h).run pins s σ H Q I ⟨G, ρ, W, F, R, p.of_bind.mono fun d W1 q v F1 H1 s1 R1 hv => by
  obtain ⟨o, ho, q2⟩ := q.of_ofO
  cases d <;> simp only [asI] at ho <;> try (cases ho; done)
  cases ho
  cases hv
  exact ⟨_, rfl, q2 F1 H1 s1 R1⟩⟩⟩
def rSlD (K : PySem.W.Frag) : V → Option Int → Option Int → Hp → VK → Prop := fun x lo hi H Q => ∃ F d z, Same F H ∧ RB K F H x d ∧ sliceD d lo hi = some z ∧ ∀ v F' H', Gr0 F H F' H' → Dq K F' v z → Q v H'
theorem sl_D : SlR X (rSlD X.K) := by
  intro pins s σ H x v vl vu lo hi sl Q I rx hs pl pu h
  obtain ⟨F, d, z, sm, hx, hg, q⟩ := h
  cases d <;> simp only [sliceD] at hg <;> try (cases hg; done)
  · obtain rfl := hx.str
    split at hg
    · cases hg
      rename_i hl
      exact sl_str pins s σ H _ v vl vu lo hi sl Q I rx hs pl pu ⟨_, rfl, sz5 hl, end_str sm rfl q⟩
    · cases hg
  · cases hg
    obtain ⟨a, xs, rfl, ha, da⟩ := hx.lst sm
    exact sl_list pins s σ H _ v vl vu lo hi sl Q I rx hs pl pu ⟨a, xs, rfl, ha, fun p np => end_lst sm rfl (da.cut lo hi) np q⟩
  · cases hg
    obtain ⟨a, xs, rfl, ha, da⟩ := hx.tup
    refine sl_tupA pins s σ H _ v vl vu lo hi sl Q I rx hs pl pu ⟨a, xs, rfl, sqT_mono sm ha, fun w => ?_, fun _ p np => end_tup sm rfl (da.cut lo hi) np q⟩
    have hc := da.cut lo hi
    have e : cutV xs lo hi = xs := by
      unfold cutV
      rw [w.1, w.2, List.drop_zero, Nat.sub_zero, List.take_length]
    rw [e] at hc
    exact q _ F H (.refl sm) (.tup ha hc)
theorem d_slice (he : PE X e (tR X.K XE fa)) (hl : PO X lo (tO X.K XE fl)) (hu : PO X hi (tO X.K XE fh)) : PE X (.Subscript e (.Slice lo hi none p2) pos) (tE X.K XE (eSlice fa fl fh)) := by
  refine (pe_slice sl_D he hl hu).weak fun σ H Q ⟨G, ρ, W, F, R, p⟩ => ?_
  refine ⟨G, ρ, W, F, R, p.of_bind.mono fun d W1 q v F1 H1 s1 R1 st1 => ⟨G, ρ, W1, F1, R1, q.of_bind.mono fun l W2 q2 F2 H2 s2 R2 => ⟨G, ρ, W2, F2, R2, q2.of_bind.mono fun u W3 q3 F3 H3 s3 R3 => ?_⟩⟩⟩
  obtain ⟨z, hz, q4⟩ := q3.of_ofO
  exact ⟨F3, d, z, R3.fh, st1 F3 H3 W3 (s2.trans s3) R3, hz, fun w F' H' g0 hw => q4 w F' H' (((s1.trans s2).trans s3).trans g0.ff) (R3.grow g0) hw⟩

/-! ### new lists by + and * -/
def addL : Dt → Dt → Option (List Dt)
  | .list a, .list b => if a.length + b.length ≤ 100000 then some (a ++ b) else none
  | _, _ => none
def mulL : Dt → Dt → Option (List Dt)
  | .list a, .int k => if k ≤ 1000 ∧ -1000 ≤ k ∧ a.length ≤ 1000 then some (List.replicate k.toNat a).flatten else none
  | _, _ => none
def lBin (g : Dt → Dt → Option (List Dt)) (a b : SE) : SA := fun ρ W => (a ρ W).bind fun p => (b ρ p.2).bind fun q => ofO (g p.1 q.1) q.2
theorem op_addL : OpR X (binaryOp .Add) (RL2 X.K addL) := by
  intro pins s σ H x y v u Q I rx ry h
  obtain ⟨F, d, e, z, sm, hx, hy, hg, q⟩ := h
  cases d <;> cases e <;> simp only [addL] at hg <;> try (cases hg; done)
  obtain ⟨a, xs, rfl, ha, da⟩ := hx.lst sm
  obtain ⟨b, ys, rfl, hb, db⟩ := hy.lst sm
  split at hg
  · cases hg
    rename_i hl
    exact op_catR pins s σ H _ _ v u Q I rx ry ⟨a, b, xs, ys, rfl, rfl, ha, hb, sz5 (by rw [da.length, db.length]; exact hl), fun p np => q p _ np (da.append db)⟩
  · cases hg
theorem op_mulL : OpR X (binaryOp .Mult) (RL2 X.K mulL) := by
  intro pins s σ H x y v u Q I rx ry h
  obtain ⟨F, d, e, z, sm, hx, hy, hg, q⟩ := h
  cases d <;> cases e <;> simp only [mulL] at hg <;> try (cases hg; done)
  obtain ⟨a, xs, rfl, ha, da⟩ := hx.lst sm
  obtain rfl := hy.int
  split at hg
  · cases hg
    rename_i k hl
    refine op_repR pins s σ H _ _ v u Q I rx ry ⟨a, k, xs, rfl, rfl, ha, by omega, by omega, ?_, fun p np => q p _ np (da.rep _)⟩
    rw [da.length]
    exact sz6 (Nat.le_trans (Nat.mul_le_mul hl.2.2 (show k.toNat ≤ 1000 by omega)) (by decide))
  · cases hg
theorem l_bin {op : Operator} {g : Dt → Dt → Option (List Dt)} (ho : OpR X (binaryOp op) (RL2 X.K g)) (ha : PE X a (tR X.K XE fa)) (hb : PE X b (tR X.K XE fb)) : PE X (.BinOp a op b pos) (tL X.K XE (lBin g fa fb)) := by
  refine (pe_op ho ha hb).weak fun σ H Q ⟨G, ρ, W, F, R, p⟩ => ?_
  refine ⟨G, ρ, W, F, R, p.of_bind.mono fun d W1 q v F1 H1 s1 R1 st1 => ⟨G, ρ, W1, F1, R1, q.of_bind.mono fun e W2 q2 y F2 H2 s2 R2 st2 => ?_⟩⟩
  obtain ⟨z, hz, q3⟩ := q2.of_ofO
  refine ⟨F2, d, e, z, R2.fh, st1 F2 H2 W2 s2 R2, st2 F2 H2 W2 (.refl _) R2, hz, fun np vs hp hv => ?_⟩
  have g : Gr0 F2 H2 F2 (upd H2 np (.lst vs)) := .newH R2.fh hp
  exact q3 np vs F2 _ (s1.trans s2) (R2.grow g) (R2.fresh hp) upd_same (R2.fh.free hp) hv
end

/-! ### promises and calls -/
def spP (K : PySem.W.Frag) (n : Nat) (Fs : List Dt → Res Dt) : Sp := fun vs H Q _ => ∃ F ds, Same F H ∧ DqAll K F vs ds ∧ ds.length = n ∧ match Fs ds with
  | .ok r => ∀ v F' H', Gr0 F H F' H' → Dq K F' v r → Q v H'
  | _ => False
/-- .. that gives a new list -/
def spL (K : PySem.W.Frag) (n : Nat) (Fs : List Dt → Res (List Dt)) : Sp := fun vs H Q _ => ∃ F ds, Same F H ∧ DqAll K F vs ds ∧ ds.length = n ∧ match Fs ds with
  | .ok r => ∀ p us F' H', Gr0 F H F' H' → H p = none → H' p = some (.lst us) → F' p = none → DqAll K F' us r → Q (.ref p) H'
  | _ => False
/-- .. whose second argument is the town, which it may change -/
def spT (K : PySem.W.Frag) (n : Nat) (Fs : List Dt → List Dt → Res (Dt × List Dt)) : Sp := fun vs H Q _ => ∃ F d ds v0 t vr tv ws, vs = v0 :: .ref t :: vr ∧ Same F H ∧ Dq K F v0 d ∧ DqAll K F vr ds ∧ ds.length = n ∧
  H t = some (.lst tv) ∧ F t = none ∧ DqAll K F tv ws ∧ match Fs (d :: ds) ws with
  | .ok r => ∀ v F' H' tv', Gr (fun a => a = t) F H F' H' → H' t = some (.lst tv') → F' t = none → DqAll K F' tv' r.2 → Dq K F' v r.1 → Q v H'
  | _ => False
def resT {α : Type} : Res α → Tw → Res (α × Tw)
  | .ok r, W => .ok (r, W)
  | _, _ => .bad
def eCall (n : Nat) (Fs : List Dt → Res Dt) (a : SA) : SE := fun ρ W => (a ρ W).bind fun p => if p.1.length = n then resT (Fs p.1) p.2 else .bad
def lCall (n : Nat) (Fs : List Dt → Res (List Dt)) (a : SA) : SA := fun ρ W => (a ρ W).bind fun p => if p.1.length = n then resT (Fs p.1) p.2 else .bad
def twnT : Res (Dt × List Dt) → Res (Dt × Tw)
  | .ok r => .ok (r.1, some r.2)
  | _ => .bad
def eCallT (n : Nat) (Fs : List Dt → List Dt → Res (Dt × List Dt)) (e : SE) (i : Nat) (a : SA) : SE := fun ρ W => (e ρ W).bind fun p => match ρ[i]? with
  | some (some .town) => (a ρ p.2).bind fun q => match q.2 with
    | some ws => if q.1.length = n then twnT (Fs (p.1 :: q.1) ws) else .bad
    | none => .bad
  | _ => .bad
theorem Pg.of_resT {α : Type} {XE : Str → Hp → Prop} {G : Gh} {r : Res α} {W : Tw} {P : α → Tw → Prop} (h : Pg XE G (resT r W) P) : ∃ a, r = .ok a ∧ P a W := by
  cases r with
  | ok a => exact ⟨a, rfl, h⟩
  | exc c => exact h.elim
  | bad => exact h.elim
theorem Rel.newTown {K : PySem.W.Frag} {G : Gh} {ρ : Sl} {W W' : Tw} {σ : L2.St} {F H F' H' : Hp} {t : Addr} {tv' : List V} {ws' : List Dt} (R : Rel K G ρ W σ F H) (hT : G.T = some t) (g : Gr (fun a => a = t) F H F' H') (h1 : H' t = some (.lst tv')) (h2 : F' t = none) (h3 : DqAll K F' tv' ws') :
    Rel K G ρ (some ws') σ F' H' := by
  have keep : ∀ a, a ≠ t → H a ≠ none → H' a = H a := fun a hn ha => by
    cases q : H a with
    | none => exact absurd q ha
    | some o => exact g.kp a o q hn
  have noF : ∀ a, F a = none → H a ≠ none → F' a = none := fun a hF hH => Classical.byContradiction fun z => by
    rcases g.nw a z with q | q
    · exact q hF
    · exact hH q
  refine ⟨⟨R.gr.ff.trans g.ff, g.fh, fun a e => ?_, fun a o e n => ?_, fun a e => g.th a (R.gr.th a e)⟩, R.len, R.t0, R.t1, ?_, fun i sv e => ?_, R.dj, fun i a ha => ?_, fun e he => ?_⟩
  · rcases g.nw a e with z | z
    · exact R.gr.nw a z
    · exact .inr (Classical.byContradiction fun q => R.gr.th a q z)
  · refine g.kp a o (R.gr.kp a o e n) fun z => ?_
    subst z
    rcases R.t1 a hT with q | q
    · exact n q
    · rw [e] at q; cases q
  · rw [hT]
    exact ⟨tv', h1, h2, h3⟩
  · obtain ⟨v, e1, e2⟩ := R.sl i sv e
    have k : ∀ a, H a ≠ none → a ∈ G.fp i → H' a = H a := fun a ha hf => keep a (fun z => (R.fr i a hf).2.2.2 (by rw [hT, z])) ha
    exact ⟨v, e1, e2.keep g.ff k k⟩
  · obtain ⟨e1, e2, e3, e4⟩ := R.fr i a ha
    exact ⟨noF a e1 e2, g.th a e2, e3, e4⟩
  · obtain ⟨e1, e2, e3, e4⟩ := R.ex e he
    have hn : e.1 ≠ t := fun z => e3 (by rw [hT, z])
    exact ⟨g.kp _ _ e1 hn, noF _ e2 (by rw [e1]; exact fun z => nomatch z), e3, e4⟩
theorem Pg.of_ite {α : Type} {XE : Str → Hp → Prop} {G : Gh} {c : Prop} [Decidable c] {r : Res (α × Tw)} {P : α → Tw → Prop} (h : Pg XE G (if c then r else .bad) P) : c ∧ Pg XE G r P := by
  by_cases hc : c
  · rw [if_pos hc] at h; exact ⟨hc, h⟩
  · rw [if_neg hc] at h; exact h.elim
section
variable {X : Cx} {XE : Str → Hp → Prop} {e a : Expr} {es : List Expr} {pos p pt : Pos} {fa : SE} {ga : SA} {k n : Nat} {f : Addr} {fd : FuncData} {ps : List Str} {x t : Str}
theorem call_of {Fs : List Dt → Res Dt} {E : XK} {σ : L2.St} {H : Hp} {Q : VK} (h : tE X.K XE (eCall n Fs ga) σ H Q) : tCall (spP X.K n Fs) [] E (tA X.K XE ga) σ H Q := by
  obtain ⟨G, ρ, W, F, R, p⟩ := h
  refine ⟨G, ρ, W, F, R, p.of_bind.mono fun ds W1 q vs F1 H1 s1 R1 hv => ?_⟩
  obtain ⟨hl, q⟩ := Pg.of_ite q
  obtain ⟨r, hr, q⟩ := Pg.of_resT q
  rw [List.append_nil]
  refine ⟨F1, ds, R1.fh, hv, hl, ?_⟩
  rw [hr]
  exact fun v F' H' g hw => q v F' H' (s1.trans g.ff) (R1.grow g) hw
theorem lcall_of {Fs : List Dt → Res (List Dt)} {E : XK} {σ : L2.St} {H : Hp} {Q : VK} (h : tL X.K XE (lCall n Fs ga) σ H Q) : tCall (spL X.K n Fs) [] E (tA X.K XE ga) σ H Q := by
  obtain ⟨G, ρ, W, F, R, p⟩ := h
  refine ⟨G, ρ, W, F, R, p.of_bind.mono fun ds W1 q vs F1 H1 s1 R1 hv => ?_⟩
  obtain ⟨hl, q⟩ := Pg.of_ite q
  obtain ⟨r, hr, q⟩ := Pg.of_resT q
  rw [List.append_nil]
  refine ⟨F1, ds, R1.fh, hv, hl, ?_⟩
  rw [hr]
  exact fun np us F' H' g hp h2 h3 hw => q np us F' H' (s1.trans g.ff) (R1.grow g) (R1.fresh hp) h2 h3 hw
theorem d_call {Fs : List Dt → Res Dt} (F : FnOk X.prog X.w X.K X.mg X.base CX0 k f fd ps (spP X.K n Fs)) (hr : Room k X.A) (hg : Gl X x) (hm : X.mg x = some (.ref f)) (hk : PySem.W.keepIn X.K (.ref f) = true) (hb : Binds X.K fd ps []) (ha : PA X (e :: es) (tA X.K XE ga))
    (hdb : (x == ("__debug__" : Str)) = false := by decide) (he : starEach (e :: es) X.env = (false, eval e X.env) :: starEach es X.env := by rfl) (hpl : (backTo pos (starEach es X.env)).any (·.1) = false := by rfl) :
    PE X (.Call (.Name x p) (e :: es) [] pos) (tE X.K XE (eCall n Fs ga)) := (pe_call F hr hg hm hk hb .nil pass0 ha hdb he hpl).weak fun _ _ _ => call_of
theorem d_call0 {Fs : List Dt → Res Dt} (F : FnOk X.prog X.w X.K X.mg X.base CX0 k f fd ps (spP X.K n Fs)) (hr : Room k X.A) (hg : Gl X x) (hm : X.mg x = some (.ref f)) (hk : PySem.W.keepIn X.K (.ref f) = true) (hb : Binds X.K fd ps [])
    (hdb : (x == ("__debug__" : Str)) = false := by decide) : PE X (.Call (.Name x p) [] [] pos) (tE X.K XE (eCall n Fs aNil)) := by
  refine (pe_call0 F hr hg hm hk hb .nil pass0 hdb).weak fun σ H Q h => ?_
  obtain ⟨G, ρ, W, F, R, p⟩ := h
  have p : Pg XE G (if ([] : List Dt).length = n then resT (Fs []) W else .bad) _ := p
  obtain ⟨hl, q⟩ := Pg.of_ite p
  obtain ⟨r, hr, q⟩ := Pg.of_resT q
  refine ⟨F, [], R.fh, .nil, hl, ?_⟩
  rw [hr]
  exact fun v F' H' g hw => q v F' H' g.ff (R.grow g) hw
theorem l_call {Fs : List Dt → Res (List Dt)} (F : FnOk X.prog X.w X.K X.mg X.base CX0 k f fd ps (spL X.K n Fs)) (hr : Room k X.A) (hg : Gl X x) (hm : X.mg x = some (.ref f)) (hk : PySem.W.keepIn X.K (.ref f) = true) (hb : Binds X.K fd ps []) (ha : PA X (e :: es) (tA X.K XE ga))
    (hdb : (x == ("__debug__" : Str)) = false := by decide) (he : starEach (e :: es) X.env = (false, eval e X.env) :: starEach es X.env := by rfl) (hpl : (backTo pos (starEach es X.env)).any (·.1) = false := by rfl) :
    PE X (.Call (.Name x p) (e :: es) [] pos) (tL X.K XE (lCall n Fs ga)) := (pe_call F hr hg hm hk hb .nil pass0 ha hdb he hpl).weak fun _ _ _ => lcall_of
theorem d_callT {Fs : List Dt → List Dt → Res (Dt × List Dt)} {i : Nat} (F : FnOk X.prog X.w X.K X.mg X.base CX0 k f fd ps (spT X.K n Fs)) (hr : Room k X.A) (hg : Gl X x) (hm : X.mg x = some (.ref f)) (hk : PySem.W.keepIn X.K (.ref f) = true) (hb : Binds X.K fd ps [])
    (h0 : PE X a (tE X.K XE fa)) (ht : PE X (.Name t pt) (tVar i)) (ha : PA X es (tA X.K XE ga))
    (hdb : (x == ("__debug__" : Str)) = false := by decide) (he : starEach (a :: .Name t pt :: es) X.env = (false, eval a X.env) :: starEach (.Name t pt :: es) X.env := by rfl) (he2 : starEach (.Name t pt :: es) X.env = (false, eval (.Name t pt) X.env) :: starEach es X.env := by rfl) (hpl : (backTo pos (starEach (.Name t pt :: es) X.env)).any (·.1) = false := by rfl) :
    PE X (.Call (.Name x p) (a :: .Name t pt :: es) [] pos) (tE X.K XE (eCallT n Fs fa i ga)) := by
  refine (pe_call F hr hg hm hk hb .nil pass0 (pa_cons h0 (pa_cons ht ha he2) he) hdb he hpl).weak fun σ H Q h => ?_
  obtain ⟨G, ρ, W, F, R, p⟩ := h
  refine ⟨G, ρ, W, F, R, p.of_bind.mono fun d W1 q v0 F1 H1 s1 R1 hv0 => ?_⟩
  simp only at q
  split at q
  · rename_i ht
    obtain ⟨v, h1, t, h2, rfl⟩ := R1.sl i _ ht
    refine ⟨_, h1, ⟨G, ρ, W1, F1, R1, q.of_bind.mono fun ds W2 q2 vs F2 H2 s2 R2 hvs => ?_⟩⟩
    simp only at q2
    split at q2
    · rename_i ws
      obtain ⟨hl, q2⟩ := Pg.of_ite q2
      have tw := R2.tw
      rw [h2] at tw
      obtain ⟨tv, t1, t2, t3⟩ := tw
      refine ⟨F2, d, ds, v0, t, vs, tv, ws, by rw [List.append_nil], R2.fh, hv0.mono s2, hvs, hl, t1, t2, t3, ?_⟩
      cases hF : Fs (d :: ds) ws with
      | ok r =>
        rw [hF] at q2
        exact fun w F' H' tv' g k1 k2 k3 hw => q2 w F' H' ((s1.trans s2).trans g.ff) (R2.newTown (W' := some r.2) h2 g k1 k2 k3) hw
      | exc c => rw [hF] at q2; exact q2.elim
      | bad => rw [hF] at q2; exact q2.elim
    · exact q2.elim
  · exact q.elim
end
end Sx

namespace Sx
open PySem PySem.Spec PyProof.Rows L2

/-! ### lists and tuples alike (k: is it a tuple) -/
def SqK (k : Bool) (K : PySem.W.Frag) (H : Hp) (a : Addr) (xs : List V) : Prop := match k with
  | true => SqT K H a xs
  | false => SqL K H a xs
def HIt (k : Bool) (h : Heap) (it a : Addr) (i : Nat) : Prop := match k with
  | true => h.IsTupleIter it a i
  | false => h.IsListIter it a i
def HSq (k : Bool) (h : Heap) (a : Addr) (items : Array Value) : Prop := match k with
  | true => h.IsTuple a items
  | false => h.IsList a items
def itO (k : Bool) (a : Addr) : Obj := { cls := .type (if k then "tuple_iterator" else "list_iterator"), data := .fields #[.ref a, .int 0 0] }
theorem HIt.obj {k : Bool} {h : Heap} {it a : Addr} {i : Nat} (x : HIt k h it a i) : ∃ o, h.get? it = some o ∧ ∀ v, o.data ≠ .cell v := by
  cases k
  · obtain ⟨o, e, c, d⟩ := x
    exact ⟨o, e, fun v z => by rw [d] at z; cases z⟩
  · obtain ⟨o, e, c, d⟩ := x
    exact ⟨o, e, fun v z => by rw [d] at z; cases z⟩
theorem HIt.at {k : Bool} {h h' : Heap} {it a : Addr} {i : Nat} (x : HIt k h it a i) (q : ∀ o, h.get? it = some o → h'.get? it = some o) : HIt k h' it a i := by
  cases k
  · exact Heap.IsListIter.at x q
  · exact Heap.IsTupleIter.at x q
theorem HIt.new {k : Bool} {h : Heap} {it a : Addr} (e : h.get? it = some (itO k a)) : HIt k h it a 0 := by
  cases k
  · exact ⟨_, e, rfl, rfl⟩
  · exact ⟨_, e, rfl, rfl⟩
theorem beginsK (k : Bool) (a : Addr) (items : Array Value) : Begins (.ref a) (itO k a) (fun h => HSq k h a items) := by
  cases k
  · exact begins_list a items
  · exact begins_tuple a items
theorem drawsK (k : Bool) {prog : Program} {w : World} {A : Around} (hh : A.handled = none) (it a : Addr) (hne : a ≠ it) (items : Array Value) :
    Draws prog w A it [it, a] items.size (fun i v => items[i]? = some v) (fun i h => HIt k h it a i ∧ HSq k h a items) := by
  cases k
  · exact Draws.list hh it a hne items
  · exact Draws.tuple hh it a hne items
theorem sqK {X : Cx} {pins : List (Addr × Obj)} {σ : L2.St} {H : Hp} {s : Shared} {k : Bool} {a : Addr} {xs : List V} (I : Inv X pins σ H s) (h : SqK k X.K H a xs) : ∃ its : List Value, Vals xs its ∧ HSq k s.heap a its.toArray ∧ a < s.heap.objs.size := by
  cases k
  · obtain ⟨its, r, p, _⟩ := I.list h
    exact ⟨its, r, p.isList, p.lt⟩
  · obtain ⟨its, r, p, _⟩ := I.tuple h
    obtain ⟨o, ho, _⟩ := id p
    exact ⟨its, r, p, Heap.lt_size ho⟩
theorem sqK_inj {X : Cx} {pins : List (Addr × Obj)} {σ : L2.St} {H : Hp} {s : Shared} {k : Bool} {a : Addr} {xs ys : List V} (I : Inv X pins σ H s) (h : SqK k X.K H a xs) (h' : SqK k X.K H a ys) : xs = ys := by
  cases k
  · exact I.list_inj h h'
  · exact I.tuple_inj h h'

/-! ### enumerate(e) -/
theorem meets_enum1 {v : Value} {o : Obj} {H : Heap → Prop} (B : Begins v o H) :
    Meets (Builtin.«enumerate.__new__» ⟨[.type "enumerate", v], []⟩) (fun _ R s => H s.heap ∧
      R (.ok (.ret (.ref (s.heap.push o).objs.size))) { s with heap := (s.heap.push o).push { cls := .type "enumerate", data := .fields #[.none, .bool false, .ref s.heap.objs.size, rawInt 0, .none, .none] } }) :=
  .of_wp fun prog w A R s h => by
    obtain ⟨hp, g, d, tk, os⟩ := s; obtain ⟨h1, h⟩ := h
    have hsub := sub_enumerate
    have q1 : ∀ {A' : Around} {E : Value → Shared → Prop} {Q : Value → Shared → Prop}, Q (.ref hp.objs.size) ⟨hp.push o, g, d, tk, os⟩ → wpAny (model prog w) A' (pyIter v) Q E ⟨hp, g, d, tk, os⟩ :=
      fun q => B.iter prog w _ _ ⟨hp, g, d, tk, os⟩ _ h1 q
    wp_walk using q1
    refine wpAny_stack_any fun st => wpAny_pure ?_
    split
    · rename_i c _ _ _ _ _
      cases (c == Value.type "enumerate")
      · wp_walk using q1
        exact ⟨_, rfl, h⟩
      · wp_walk using q1
        exact ⟨_, rfl, h⟩
    · wp_walk using q1
      exact ⟨_, rfl, h⟩
theorem enum1_begins {prog : Program} {w : World} {A : Around} {E : Value → Shared → Prop} {s : Shared} {v : Value} {o : Obj} {H : Heap → Prop} {Q : Value → Shared → Prop} (B : Begins v o H) (h1 : H s.heap)
    (h : ∀ h', IsEnum h' (s.heap.objs.size + 1) s.heap.objs.size 0 .none → h'.get? s.heap.objs.size = some o → h'.objs.size = s.heap.objs.size + 2 →
      (∀ b o, s.heap.get? b = some o → h'.get? b = some o) → Q (.ref (s.heap.objs.size + 1)) { s with heap := h' }) :
    wpAny (model prog w) A (call (.type "enumerate") [v]) Q E s := by
  refine callType_new F.called_enumerate (by decide) (F.typeCall_enumerate_1 _) (F.newCall_enumerate_1 _) (fun obj => F.args_object_init_2 obj _) F.entry_enumerate_new
    (meets_enum1 B) ⟨h1, ?_⟩
  have hz : (s.heap.push o).objs.size = s.heap.objs.size + 1 := Heap.size_push ..
  show _ ∧ _
  rw [hz]
  have he : IsEnum ((s.heap.push o).push { cls := .type "enumerate", data := .fields #[.none, .bool false, .ref s.heap.objs.size, rawInt 0, .none, .none] }) (s.heap.objs.size + 1) s.heap.objs.size 0 .none := by
    have := Heap.get?_push_size (s.heap.push o) (o := { cls := .type "enumerate", data := .fields #[.none, .bool false, .ref s.heap.objs.size, rawInt 0, .none, .none] }) rfl
    rw [hz] at this; exact this
  refine ⟨⟨_, he, rfl⟩, h _ he (Heap.get?_push_of_some _ (Heap.get?_push_size _ B.free)) (by rw [Heap.size_push, hz]) fun b o x => Heap.get?_push_of_some _ (Heap.get?_push_of_some _ x)⟩
def IteK (k : Bool) (K : PySem.W.Frag) (a : Addr) : It :=
  ⟨fun i H => ∃ (xs : List V) (x : V), SqK k K H a xs ∧ xs[i]? = some x, fun i H v H' => ∃ T x, v = .ref T ∧ H T = none ∧ H' = upd H T (.tup [.int (i : Nat), x]) ∧ ∀ xs, SqK k K H a xs → xs[i]? = some x, fun i H => ∃ xs : List V, SqK k K H a xs ∧ xs.length = i⟩
theorem turn_enumK {P : Program} {w : World} {K : PySem.W.Frag} {elts : List Expr} {kk : Nat} {tpos : Pos} (k : Bool) (a e it : Addr) :
    Turn P w K (.Tuple elts kk tpos) (IteK k K a) [e, it] e (fun i h => (∃ old, IsEnum h e it (0 + (i : Int)) old) ∧ HIt k h it a i ∧ e ≠ it ∧ a ≠ it ∧ a ≠ e) where
  mem := by simp
  obj := fun i h st b hb => by
    obtain ⟨⟨old, he⟩, hi, _⟩ := st
    have e' : b = e ∨ b = it := by simpa using hb
    rcases e' with z | z
    · rw [z]; exact ⟨_, he, fun v q => nomatch q⟩
    · rw [z]; exact hi.obj
  keep := fun i h h' st kp => let ⟨⟨old, he⟩, hi, hne⟩ := st; ⟨⟨old, kp e (by simp) _ he⟩, hi.at fun o q => kp it (by simp) o q, hne⟩
  item := by
    intro X hP hw hK hc i pins s σ H E I hf st hg
    subst hP hw hK
    obtain ⟨⟨old, he⟩, hit, hne, hna, hnb⟩ := st
    obtain ⟨xs, x, hq, hx⟩ := hg
    obtain ⟨its, rv, p, hal⟩ := sqK I hq
    obtain ⟨u, hu, ru⟩ := rv.get hx
    have hlt : i < its.toArray.size := by
      obtain ⟨h1, _⟩ := List.getElem?_eq_some_iff.mp hu
      simpa using h1
    have hel : e < s.heap.objs.size := Heap.lt_size he
    have hil : it < s.heap.objs.size := by obtain ⟨_, q, _⟩ := hit.obj; exact Heap.lt_size q
    have hh : X.A.in1.handled = none := I.ok.hd hc
    have Wk := WalksT.enumFrom (prog := X.prog) (w := X.w) (A := X.A) 0 (drawsK k hh it a hna its.toArray) e hne (by simp [hne, Ne.symm hnb]) (by simp)
    refine Wk.item i s _ _ hlt ⟨⟨old, he⟩, hit, p⟩ fun T vals h' tk hP hsz hT hMid hk => ?_
    refine ⟨_, rfl, Wk.go elts kk tpos i T _ _ _ hMid fun h'' hSt hk2 => ?_⟩
    obtain ⟨t, y, hy, rfl⟩ := hP
    have ey : y = u := by
      have : its.toArray[i]? = some u := by simpa using hu
      rw [this] at hy
      exact (Option.some.inj hy).symm
    subst ey
    have nT : T ∉ [e, it] := Wk.apart i T h' hMid
    have hT2 : h''.IsTuple T #[.int (0 + (i : Int)) t, y] := hT.at fun o q => hk2 T o nT q
    have new : ObjOk X.prog X.w (upd H T (.tup [.int (i : Nat), x])) h'' T (.tup [.int (i : Nat), x]) :=
      ⟨by show 2 ≤ sizeLine; decide, [.int (0 + (i : Int)) t, y], .cons ⟨t, by rw [Int.zero_add]⟩ (.cons ru .nil), hT2⟩
    have I1 : Inv X pins σ (upd H T (.tup [.int (i : Nat), x])) { s with heap := h'', toks := tk } :=
      I.turnedNew (ch := [e, it]) (fun b ob hb q => hk2 b ob hb (hk b ob hb q)) hf hsz new
    refine ⟨.ref T, _, I1, rfl, ⟨_, x, rfl, I.hok.fresh hsz, rfl, fun ys hy => by rw [sqK_inj I hy hq]; exact hx⟩, ⟨hSt.1, hSt.2.1, hne, hna, hnb⟩, fun b hb => ?_⟩
    have hb' : b < s.heap.objs.size := by
      have e' : b = e ∨ b = it := by simpa using hb
      rcases e' with z | z
      · rw [z]; exact hel
      · rw [z]; exact hil
    rw [upd_ne (Nat.ne_of_lt (Nat.lt_of_lt_of_le hb' hsz))]
    exact (hf b hb).1
  done := by
    intro X hP hw hK hc i pins s σ H E I hf st hg
    subst hP hw hK
    obtain ⟨⟨old, he⟩, hit, hne, hna, hnb⟩ := st
    obtain ⟨xs, hq, hx⟩ := hg
    obtain ⟨its, rv, p, hal⟩ := sqK I hq
    have hl := rv.length
    have hh : X.A.in1.handled = none := I.ok.hd hc
    have Wk := WalksT.enumFrom (prog := X.prog) (w := X.w) (A := X.A) 0 (drawsK k hh it a hna its.toArray) e hne (by simp [hne, Ne.symm hnb]) (by simp)
    have hn : i = its.toArray.size := by rw [List.size_toArray]; omega
    subst hn
    refine Wk.done s _ _ ⟨⟨old, he⟩, hit, p⟩ fun h' tk hk => ⟨rfl, I.turnedL (ch := [e, it]) (fun b o hb q => hk b o hb q) hf⟩
  self := fun A i s Q E st h => let ⟨⟨_, he⟩, _⟩ := st; wpAny_pyIter_enum he h
def iEnumK (K : PySem.W.Frag) (ta : TA) : TI := fun σ H R => ta σ H fun vs H1 => ∃ k a xs, vs = [.ref a] ∧ SqK k K H1 a xs ∧ R (IteK k K a) H1
theorem pi_enumK {X : Cx} {e : Expr} {ta : TA} {p pos tpos : Pos} {elts : List Expr} {kk : Nat} (hg : Gl X "enumerate") (hm : X.mg "enumerate" = none) (ha : PA X [e] ta) (hs : starEach [e] X.env = [(false, eval e X.env)] := by rfl) :
    PI X (.Tuple elts kk tpos) (.Call (.Name "enumerate" p) [e] [] pos) (iEnumK X.K ta) := by
  refine ⟨fun pins s σ H R I h => ?_⟩
  refine Call_ (ld_blt I hg hm boot_enumerate (PyProof.Rows.callWith_type1 (thn (ha.run pos pins s σ H _ I h) fun us s1 ⟨vs, H1, I1, r1, q1⟩ => ?_) hs rfl))
  obtain ⟨k, a, xs, ex, hq, q⟩ := q1
  subst ex
  cases r1 with
  | cons r rr =>
    cases rr
    cases r
    obtain ⟨its, rv, p', hal⟩ := sqK I1 hq
    refine enum1_begins (beginsK k a its.toArray) p' fun h' he hit hsz hk => wpAny_pyIter_enum he ?_
    have I2 : Inv X pins σ H1 { s1 with heap := h' } := I1.kept (t' := s1.toks) hk
    refine ⟨s1.heap.objs.size + 1, [s1.heap.objs.size + 1, s1.heap.objs.size], _, _, H1, rfl, I2, turn_enumK k a (s1.heap.objs.size + 1) s1.heap.objs.size, ⟨⟨.none, he⟩, HIt.new hit, Nat.succ_ne_self _, Nat.ne_of_lt hal, Nat.ne_of_lt (Nat.lt_succ_of_lt hal)⟩, fun b hb => ?_, q⟩
    have e' : b = s1.heap.objs.size + 1 ∨ b = s1.heap.objs.size := by simpa using hb
    have hle : s1.heap.objs.size ≤ b := by
      rcases e' with z | z
      · rw [z]; exact Nat.le_add_right _ _
      · rw [z]; exact Nat.le_refl _
    exact I1.fpOk hle (I1.hok.fresh hle)

/-! ### zip(e, e2) -/
def ItzK (k l : Bool) (K : PySem.W.Frag) (a b : Addr) : It :=
  ⟨fun i H => ∃ (xs ys : List V) (x y : V), SqK k K H a xs ∧ SqK l K H b ys ∧ xs[i]? = some x ∧ ys[i]? = some y,
    fun i H v H' => ∃ T x y, v = .ref T ∧ H T = none ∧ H' = upd H T (.tup [x, y]) ∧ (∀ xs, SqK k K H a xs → xs[i]? = some x) ∧ ∀ ys, SqK l K H b ys → ys[i]? = some y,
    fun i H => ∃ xs ys : List V, SqK k K H a xs ∧ SqK l K H b ys ∧ i = min xs.length ys.length⟩
structure ZAp (z TI TO i1 i2 a b : Addr) : Prop where
  S : ZipSep2 z TI TO i1 i2 [i1, a] [i2, b]
  a1 : a ≠ i1
  b2 : b ≠ i2
theorem turn_zipK {P : Program} {w : World} {K : PySem.W.Frag} {elts : List Expr} {kk : Nat} {tpos : Pos} (k l : Bool) {a b z TI TO i1 i2 : Addr} (D : ZAp z TI TO i1 i2 a b) :
    Turn P w K (.Tuple elts kk tpos) (ItzK k l K a b) [z, TI, TO, i1, i2] z (fun i h => IsZip h z TI TO .none ∧ IsTupOf2 h TI (.ref i1) (.ref i2) ∧ (∃ x y, IsTupOf2 h TO x y) ∧ HIt k h i1 a i ∧ HIt l h i2 b i) where
  mem := by simp
  obj := fun i h st c hc => by
    obtain ⟨hz, hTI, ⟨x, y, hTO⟩, h1, h2⟩ := st
    have e' : c = z ∨ c = TI ∨ c = TO ∨ c = i1 ∨ c = i2 := by simpa using hc
    rcases e' with q | q | q | q | q
    · rw [q]; exact ⟨_, hz, fun v q => nomatch q⟩
    · rw [q]; exact ⟨_, hTI, fun v q => nomatch q⟩
    · rw [q]; exact ⟨_, hTO, fun v q => nomatch q⟩
    · rw [q]; exact h1.obj
    · rw [q]; exact h2.obj
  keep := fun i h h' st kp => by
    obtain ⟨hz, hTI, ⟨x, y, hTO⟩, h1, h2⟩ := st
    exact ⟨kp z (by simp) _ hz, kp TI (by simp) _ hTI, ⟨x, y, kp TO (by simp) _ hTO⟩, h1.at fun o q => kp i1 (by simp) o q, h2.at fun o q => kp i2 (by simp) o q⟩
  item := by
    intro X hP hw hK hc i pins s σ H E I hf st hg
    subst hP hw hK
    obtain ⟨hz, hTI, ⟨x0, y0, hTO⟩, h1, h2⟩ := st
    obtain ⟨xs, ys, x, y, hqx, hqy, hx, hy⟩ := hg
    obtain ⟨its, rv, p, _⟩ := sqK I hqx
    obtain ⟨its2, rv2, p2, _⟩ := sqK I hqy
    obtain ⟨u, hu, ru⟩ := rv.get hx
    obtain ⟨u2, hu2, ru2⟩ := rv2.get hy
    have hlt : i < min its.toArray.size its2.toArray.size := by
      obtain ⟨h1, _⟩ := List.getElem?_eq_some_iff.mp hu
      obtain ⟨h2, _⟩ := List.getElem?_eq_some_iff.mp hu2
      rw [List.size_toArray, List.size_toArray]
      omega
    have hh : X.A.in1.handled = none := I.ok.hd hc
    have Wk := WalksT.zipD2 (prog := X.prog) (w := X.w) (A := X.A) D.S (drawsK k hh i1 a D.a1 its.toArray) (drawsK l hh i2 b D.b2 its2.toArray)
    refine Wk.item i s _ _ hlt ⟨hz, hTI, ⟨_, _, hTO⟩, ⟨h1, p⟩, ⟨h2, p2⟩⟩ fun T vals h' tk hP hsz hT hMid hk => ?_
    refine ⟨_, rfl, Wk.go elts kk tpos i T _ _ _ hMid fun h'' hSt hk2 => ?_⟩
    obtain ⟨w1, w2, hy1, hy2, rfl⟩ := hP
    have e1 : w1 = u := by
      have : its.toArray[i]? = some u := by simpa using hu
      rw [this] at hy1
      exact (Option.some.inj hy1).symm
    have e2 : w2 = u2 := by
      have : its2.toArray[i]? = some u2 := by simpa using hu2
      rw [this] at hy2
      exact (Option.some.inj hy2).symm
    subst e1 e2
    have nT : T ∉ [z, TO, i1, i2] := Wk.apart i T h' hMid
    have hT2 : h''.IsTuple T #[w1, w2] := hT.at fun o q => hk2 T o nT q
    have sub : ∀ c, c ∈ [z, TO, i1, i2] → c ∈ [z, TI, TO, i1, i2] := fun c hcm => by
      have e' : c = z ∨ c = TO ∨ c = i1 ∨ c = i2 := by simpa using hcm
      rcases e' with q | q | q | q <;> simp [q]
    have new : ObjOk X.prog X.w (upd H T (.tup [x, y])) h'' T (.tup [x, y]) := ⟨by show 2 ≤ sizeLine; decide, [w1, w2], .cons ru (.cons ru2 .nil), hT2⟩
    have I1 : Inv X pins σ (upd H T (.tup [x, y])) { s with heap := h'', toks := tk } :=
      I.turnedNew (ch := [z, TI, TO, i1, i2]) (fun c ob hb q => hk2 c ob (fun z => hb (sub c z)) (hk c ob (fun z => hb (sub c z)) q)) hf hsz new
    refine ⟨.ref T, _, I1, rfl, ⟨_, x, y, rfl, I.hok.fresh hsz, rfl, fun l hl => by rw [sqK_inj I hl hqx]; exact hx, fun l hl => by rw [sqK_inj I hl hqy]; exact hy⟩, ⟨hSt.1, hSt.2.1, hSt.2.2.1, hSt.2.2.2.1.1, hSt.2.2.2.2.1⟩, fun c hcm => ?_⟩
    have hlt : c < s.heap.objs.size := by
      have e' : c = z ∨ c = TI ∨ c = TO ∨ c = i1 ∨ c = i2 := by simpa using hcm
      rcases e' with q | q | q | q | q
      · rw [q]; exact Heap.lt_size hz
      · rw [q]; exact Heap.lt_size hTI
      · rw [q]; exact Heap.lt_size hTO
      · rw [q]; obtain ⟨_, e1, _⟩ := h1.obj; exact Heap.lt_size e1
      · rw [q]; obtain ⟨_, e2, _⟩ := h2.obj; exact Heap.lt_size e2
    rw [upd_ne (Nat.ne_of_lt (Nat.lt_of_lt_of_le hlt hsz))]
    exact (hf c hcm).1
  done := by
    intro X hP hw hK hc i pins s σ H E I hf st hg
    subst hP hw hK
    obtain ⟨hz, hTI, ⟨x0, y0, hTO⟩, h1, h2⟩ := st
    obtain ⟨xs, ys, hqx, hqy, hend⟩ := hg
    obtain ⟨its, rv, p, _⟩ := sqK I hqx
    obtain ⟨its2, rv2, p2, _⟩ := sqK I hqy
    have l1 := rv.length
    have l2 := rv2.length
    have hh : X.A.in1.handled = none := I.ok.hd hc
    have Wk := WalksT.zipD2 (prog := X.prog) (w := X.w) (A := X.A) D.S (drawsK k hh i1 a D.a1 its.toArray) (drawsK l hh i2 b D.b2 its2.toArray)
    have hn : i = min its.toArray.size its2.toArray.size := by rw [List.size_toArray, List.size_toArray]; omega
    subst hn
    have sub : ∀ c, c ∈ [z, TO, i1, i2] → c ∈ [z, TI, TO, i1, i2] := fun c hcm => by
      have e' : c = z ∨ c = TO ∨ c = i1 ∨ c = i2 := by simpa using hcm
      rcases e' with q | q | q | q <;> simp [q]
    refine Wk.done s _ _ ⟨hz, hTI, ⟨_, _, hTO⟩, ⟨h1, p⟩, ⟨h2, p2⟩⟩ fun h' tk hk => ⟨rfl, I.turnedL (ch := [z, TI, TO, i1, i2]) (fun b o hb q => hk b o (fun z => hb (sub b z)) q) hf⟩
  self := fun A i s Q E st h => wpAny_pyIter_zip st.1 h
def iZipK (K : PySem.W.Frag) (ta : TA) : TI := fun σ H R => ta σ H fun vs H1 => ∃ k l a b xs ys, vs = [.ref a, .ref b] ∧ SqK k K H1 a xs ∧ SqK l K H1 b ys ∧ R (ItzK k l K a b) H1
theorem pi_zipK {X : Cx} {e e2 : Expr} {ta : TA} {p pos tpos : Pos} {elts : List Expr} {kk : Nat} (hg : Gl X "zip") (hm : X.mg "zip" = none) (ha : PA X [e, e2] ta)
    (hs : starEach [e, e2] X.env = (false, eval e X.env) :: starEach [e2] X.env := by rfl) (hpl : (backTo pos (starEach [e2] X.env)).any (·.1) = false := by rfl) :
    PI X (.Tuple elts kk tpos) (.Call (.Name "zip" p) [e, e2] [] pos) (iZipK X.K ta) := by
  refine ⟨fun pins s σ H R I h => ?_⟩
  refine Call_ (ld_blt I hg hm PyProof.Rows.boot_zip (PyProof.Rows.callWith_type1 (thn (ha.run pos pins s σ H _ I h) fun us s1 ⟨vs, H1, I1, r1, q1⟩ => ?_) hs hpl))
  obtain ⟨k, l, a, b, xs, ys, ex, hqx, hqy, q⟩ := q1
  subst ex
  cases r1 with
  | cons r rr =>
    cases rr with
    | cons r' rr =>
      cases rr
      cases r
      cases r'
      obtain ⟨its, rv, p1, la⟩ := sqK I1 hqx
      obtain ⟨its2, rv2, p2, lb⟩ := sqK I1 hqy
      refine zip_begins2 (beginsK k a its.toArray) (beginsK l b its2.toArray) p1 p2 fun h' hz hTI hTO h1 h2 hsz hk => wpAny_pyIter_zip hz ?_
      have I2 : Inv X pins σ H1 { s1 with heap := h' } := I1.kept (t' := s1.toks) hk
      have S : ZipSep2 (s1.heap.objs.size + 4) (s1.heap.objs.size + 2) (s1.heap.objs.size + 3) s1.heap.objs.size (s1.heap.objs.size + 1) [s1.heap.objs.size, a] [s1.heap.objs.size + 1, b] :=
        zip_sep2 (N := s1.heap.objs.size) (fp1 := [a]) (fp2 := [b]) (fun c hc => by rw [List.mem_singleton.mp hc]; exact la) (fun c hc => by rw [List.mem_singleton.mp hc]; exact lb)
      refine ⟨s1.heap.objs.size + 4, [s1.heap.objs.size + 4, s1.heap.objs.size + 2, s1.heap.objs.size + 3, s1.heap.objs.size, s1.heap.objs.size + 1], _, _, H1, rfl, I2, turn_zipK k l ⟨S, Nat.ne_of_lt la, Nat.ne_of_lt (Nat.lt_succ_of_lt lb)⟩, ⟨hz, hTI, ⟨_, _, hTO⟩, HIt.new h1, HIt.new h2⟩, fun c hcm => ?_, q⟩
      have e' : c = s1.heap.objs.size + 4 ∨ c = s1.heap.objs.size + 2 ∨ c = s1.heap.objs.size + 3 ∨ c = s1.heap.objs.size ∨ c = s1.heap.objs.size + 1 := by simpa using hcm
      have hle : s1.heap.objs.size ≤ c := by
        rcases e' with z | z | z | z | z
        · rw [z]; exact Nat.le_add_right _ _
        · rw [z]; exact Nat.le_add_right _ _
        · rw [z]; exact Nat.le_add_right _ _
        · rw [z]; exact Nat.le_refl _
        · rw [z]; exact Nat.le_add_right _ _
      exact I1.fpOk hle (I1.hok.fresh hle)
end Sx

namespace Sx
open PySem PySem.Spec PyProof.Rows L2

/-! ### what is walked -/
def WalkD (K : PySem.W.Frag) (F : Hp) (J : It) (ds : List Dt) : Prop := Walk J ds.length (fun H2 => ∃ F2, Same F F2 ∧ Same F2 H2)
  (fun i H2 x H3 => ∀ F2, Same F F2 → Same F2 H2 → ∃ F3 d, ds[i]? = some d ∧ Gr0 F2 H2 F3 H3 ∧ Dq K F3 x d)
def tI (K : PySem.W.Frag) (XE : Str → Hp → Prop) (f : SA) : TI := fun σ H R => ∃ G ρ W F, Rel K G ρ W σ F H ∧
  Pg XE G (f ρ W) fun ds W' => ∀ J F' H', Same F F' → Rel K G ρ W' σ F' H' → WalkD K F' J ds → R J H'
end Sx
namespace L2
theorem PI.weak {X : Cx} {tg e : PySem.Expr} {t t' : TI} (h : PI X tg e t) (w : ∀ σ H R, t' σ H R → t σ H R) : PI X tg e t' := ⟨fun pins s σ H R I hq => h.run pins s σ H R I (w σ H R hq)⟩
theorem PG.weak {X : Cx} {tg : PySem.Expr} {t t' : TG} (h : PG X tg t) (w : ∀ v σ H Q, t' v σ H Q → t v σ H Q) : PG X tg t' := ⟨fun pins s σ H v u Q I r hq => h.run pins s σ H v u Q I r (w v σ H Q hq)⟩
theorem PGs.weak {X : Cx} {tg : List PySem.Expr} {t t' : TGs} (h : PGs X tg t) (w : ∀ v σ H Q, t' v σ H Q → t v σ H Q) : PGs X tg t' := ⟨fun pins s σ H v u Q I r hq => h.run pins s σ H v u Q I r (w v σ H Q hq)⟩
end L2
namespace Sx
open PySem PySem.Spec PyProof.Rows L2
def seqOf : Dt → Option (List Dt)
  | .list ds => some ds
  | .tuple ds => some ds
  | _ => none
def iSeq (e : SE) : SA := fun ρ W => (e ρ W).bind fun p => ofO (seqOf p.1) p.2
def rngD (n : Int) : List Dt := (List.range n.toNat).map fun (i : Nat) => PyData.int (i : Int)
def rngOf : List Dt → Option (List Dt)
  | [.int n] => if n ≤ 100000 ∧ -100000 ≤ n then some (rngD n) else none
  | _ => none
def iRng (a : SA) : SA := fun ρ W => (a ρ W).bind fun p => ofO (rngOf p.1) p.2
def enumD : Nat → List Dt → List Dt
  | _, [] => []
  | n, d :: ds => .tuple [.int n, d] :: enumD (n + 1) ds
def enumOf : List Dt → Option (List Dt)
  | [d] => (seqOf d).map (enumD 0)
  | _ => none
def iEnum' (a : SA) : SA := fun ρ W => (a ρ W).bind fun p => ofO (enumOf p.1) p.2
def zipD (a b : List Dt) : List Dt := List.zipWith (fun x y => .tuple [x, y]) a b
def zipOf : List Dt → Option (List Dt)
  | [a, b] => (seqOf a).bind fun x => (seqOf b).map fun y => zipD x y
  | _ => none
def iZip' (a : SA) : SA := fun ρ W => (a ρ W).bind fun p => ofO (zipOf p.1) p.2
theorem enumD_get : ∀ (ds : List Dt) (n i : Nat) (d : Dt), ds[i]? = some d → (enumD n ds)[i]? = some (.tuple [.int ((n + i : Nat) : Int), d])
  | [], _, _, _, h => by simp at h
  | x :: ds, n, 0, d, h => by simp at h; subst h; rfl
  | x :: ds, n, i + 1, d, h => by
    have := enumD_get ds (n + 1) i d (by simpa using h)
    show (enumD (n + 1) ds)[i]? = _
    rw [this, show n + 1 + i = n + (i + 1) by omega]
theorem enumD_len : ∀ (ds : List Dt) (n : Nat), (enumD n ds).length = ds.length
  | [], _ => rfl
  | x :: ds, n => by show (enumD (n + 1) ds).length + 1 = ds.length + 1; rw [enumD_len ds]
section
variable {K : PySem.W.Frag} {F : Hp} {a b : Addr} {xs ys : List V} {ds es : List Dt}
theorem wd_list (h : SqL K F a xs) (hd : DqAll K F xs ds) : WalkD K F (Itl K a) ds := by
  unfold WalkD
  rw [← hd.length]
  refine Walk.mono (walk_list (xs := xs)) (fun H ⟨F2, s1, s2⟩ => (s1.trans s2).seq h) fun i H x H' hi ⟨F2, s1, s2⟩ ⟨e, hx⟩ F2' s1' s2' => ?_
  subst e
  obtain ⟨d, h1, h2⟩ := hd.get hx
  exact ⟨F2', d, h1, .refl s2', h2.mono s1'⟩
theorem wd_tup (h : SqT K F a xs) (hd : DqAll K F xs ds) : WalkD K F (Itt K a) ds := by
  unfold WalkD
  rw [← hd.length]
  refine Walk.mono (walk_tup (xs := xs)) (fun H ⟨F2, s1, s2⟩ => sqT_mono (s1.trans s2) h) fun i H x H' hi ⟨F2, s1, s2⟩ ⟨e, hx⟩ F2' s1' s2' => ?_
  subst e
  obtain ⟨d, h1, h2⟩ := hd.get hx
  exact ⟨F2', d, h1, .refl s2', h2.mono s1'⟩
theorem wd_rng {n : Int} : WalkD K F (Itr 0 n.toNat) (rngD n) := by
  unfold WalkD
  have e : (rngD n).length = n.toNat := by simp [rngD]
  rw [e]
  refine Walk.mono walk_range (fun H _ => trivial) fun i H x H' hi _ ⟨e, hx⟩ F2' s1' s2' => ?_
  subst e hx
  refine ⟨F2', .int i, by simp [rngD, hi], .refl s2', ?_⟩
  show Dq K F2' (V.int ((0 : Int) + (i : Int))) (.int (i : Int))
  rw [Int.zero_add]
  exact .int _
theorem sqK_of {k : Bool} {H : Hp} (s : Same F H) (h : (k = true ∧ SqT K F a xs) ∨ (k = false ∧ SqL K F a xs)) : SqK k K H a xs := by
  rcases h with ⟨rfl, h⟩ | ⟨rfl, h⟩
  · exact sqT_mono s h
  · exact s.seq h
theorem pair_end {F2 H : Hp} {T : Addr} {x y : V} {d e : Dt} (s : Same F2 H) (hT : H T = none) (h1 : Dq K F2 x d) (h2 : Dq K F2 y e) : ∃ F3, Gr0 F2 H F3 (upd H T (.tup [x, y])) ∧ Dq K F3 (.ref T) (.tuple [d, e]) := by
  have g : Gr0 F2 H (upd F2 T (.tup [x, y])) (upd H T (.tup [x, y])) := .new s hT
  exact ⟨_, g, .tup (.inl (.inl upd_same)) (.cons (h1.mono g.ff) (.cons (h2.mono g.ff) .nil))⟩
theorem wd_enum {k : Bool} (h : (k = true ∧ SqT K F a xs) ∨ (k = false ∧ SqL K F a xs)) (hd : DqAll K F xs ds) : WalkD K F (IteK k K a) (enumD 0 ds) := by
  unfold WalkD
  rw [enumD_len, ← hd.length]
  refine ⟨fun i H hi ⟨F2, s1, s2⟩ => ⟨xs, xs[i], sqK_of (s1.trans s2) h, by simp [hi]⟩, fun H ⟨F2, s1, s2⟩ => ⟨xs, sqK_of (s1.trans s2) h, rfl⟩, fun i H v H' hi ⟨F2, s1, s2⟩ ⟨T, x, e1, hT, e2, hx⟩ F2' s1' s2' => ?_⟩
  subst e1 e2
  obtain ⟨d, h1, h2⟩ := hd.get (hx xs (sqK_of (s1.trans s2) h))
  obtain ⟨F3, g, hq⟩ := pair_end s2' hT (.int (i : Nat)) (h2.mono s1')
  refine ⟨F3, _, enumD_get ds 0 i d h1, g, ?_⟩
  rw [Nat.zero_add]
  exact hq
theorem wd_zip {k l : Bool} (h : (k = true ∧ SqT K F a xs) ∨ (k = false ∧ SqL K F a xs)) (h' : (l = true ∧ SqT K F b ys) ∨ (l = false ∧ SqL K F b ys)) (hd : DqAll K F xs ds) (he : DqAll K F ys es) : WalkD K F (ItzK k l K a b) (zipD ds es) := by
  unfold WalkD
  have e : (zipD ds es).length = min xs.length ys.length := by rw [hd.length, he.length]; simp [zipD]
  rw [e]
  refine ⟨fun i H hi ⟨F2, s1, s2⟩ => ?_, fun H ⟨F2, s1, s2⟩ => ⟨xs, ys, sqK_of (s1.trans s2) h, sqK_of (s1.trans s2) h', rfl⟩, fun i H v H' hi ⟨F2, s1, s2⟩ ⟨T, x, y, e1, hT, e2, hx, hy⟩ F2' s1' s2' => ?_⟩
  · have h1 : i < xs.length := by omega
    have h2 : i < ys.length := by omega
    exact ⟨xs, ys, xs[i], ys[i], sqK_of (s1.trans s2) h, sqK_of (s1.trans s2) h', by simp [h1], by simp [h2]⟩
  · subst e1 e2
    obtain ⟨d, h1, h2⟩ := hd.get (hx xs (sqK_of (s1.trans s2) h))
    obtain ⟨c, h3, h4⟩ := he.get (hy ys (sqK_of (s1.trans s2) h'))
    obtain ⟨F3, g, hq⟩ := pair_end s2' hT (h2.mono s1') (h4.mono s1')
    exact ⟨F3, _, by simp [zipD, List.getElem?_zipWith, h1, h3], g, hq⟩
end
section
variable {X : Cx} {XE : Str → Hp → Prop} {tg e a b : Expr} {es : List Expr} {pos p tpos : Pos} {fa : SE} {ga : SA} {elts : List Expr} {kk : Nat}
/-- for x in (a list or a tuple) -/
theorem i_seq (he : PE X e (tE X.K XE fa)) : PI X tg e (tI X.K XE (iSeq fa)) := by
  refine ⟨fun pins s σ H R I h => ?_⟩
  obtain ⟨G, ρ, W, F, Rl, p⟩ := h
  refine thn (he.run pins s σ H (fun x H1 => ∃ ds J, (∃ F1 W1, Same F F1 ∧ Rel X.K G ρ W1 σ F1 H1 ∧ ((J = Itl X.K (match x with | .ref a => a | _ => 0) ∧ ∃ a xs, x = .ref a ∧ SqL X.K F1 a xs ∧ DqAll X.K F1 xs ds) ∨ (J = Itt X.K (match x with | .ref a => a | _ => 0) ∧ ∃ a xs, x = .ref a ∧ SqT X.K F1 a xs ∧ DqAll X.K F1 xs ds)) ∧ (WalkD X.K F1 J ds → R J H1))) I ⟨G, ρ, W, F, Rl, p.of_bind.mono fun d W1 q v F1 H1 s1 R1 hv => ?_⟩) fun v s1 ⟨x, H1, I1, r1, q1⟩ => ?_
  · obtain ⟨ds, hd, q2⟩ := q.of_ofO
    cases d <;> simp only [seqOf] at hd <;> try (cases hd; done)
    · cases hd
      cases hv with
      | lst h1 h2 => exact ⟨_, Itl X.K _, F1, W1, s1, R1, .inl ⟨rfl, _, _, rfl, h1, h2⟩, fun wk => q2 _ F1 H1 s1 R1 wk⟩
    · cases hd
      cases hv with
      | tup h1 h2 => exact ⟨_, Itt X.K _, F1, W1, s1, R1, .inr ⟨rfl, _, _, rfl, h1, h2⟩, fun wk => q2 _ F1 H1 s1 R1 wk⟩
  · obtain ⟨ds, J, F1, W1, sm, R1, hJ | hJ, q⟩ := q1
    · obtain ⟨eJ, a, xs, rfl, ha, da⟩ := hJ
      cases r1
      subst eJ
      obtain ⟨its, rv, p, hz⟩ := I1.list (R1.fh.seq ha)
      refine wpAny_pyIter_list p.isList ?_
      refine ⟨s1.heap.objs.size, [s1.heap.objs.size], _, _, H1, rfl, I1.kept (t' := s1.toks) fun b o e => Heap.get?_push_of_some _ e, turn_list a _, ⟨_, Heap.get?_push_size _ rfl, rfl, rfl⟩, fun b hb => ?_, q (wd_list ha da)⟩
      have e : b = s1.heap.objs.size := by simpa using hb
      subst e
      exact I1.fpOk (Nat.le_refl _) (I1.hok.fresh (Nat.le_refl _))
    · obtain ⟨eJ, a, xs, rfl, ha, da⟩ := hJ
      cases r1
      subst eJ
      obtain ⟨its, rv, p, hz⟩ := I1.tuple (sqT_mono R1.fh ha)
      refine wpAny_pyIter_tuple (show s1.heap.IsTuple a its.toArray from p) ?_
      refine ⟨s1.heap.objs.size, [s1.heap.objs.size], _, _, H1, rfl, I1.kept (t' := s1.toks) fun b o e => Heap.get?_push_of_some _ e, turn_tuple a _, ⟨_, Heap.get?_push_size _ rfl, rfl, rfl⟩, fun b hb => ?_, q (wd_tup ha da)⟩
      have e : b = s1.heap.objs.size := by simpa using hb
      subst e
      exact I1.fpOk (Nat.le_refl _) (I1.hok.fresh (Nat.le_refl _))
theorem i_rng (hg : Gl X "range") (hm : X.mg "range" = none) (ha : PA X [a] (tA X.K XE ga)) (hs : starEach [a] X.env = [(false, eval a X.env)] := by rfl) : PI X tg (.Call (.Name "range" p) [a] [] pos) (tI X.K XE (iRng ga)) := by
  refine (pi_range1 hg hm ha hs).weak fun σ H R ⟨G, ρ, W, F, Rl, p⟩ => ⟨G, ρ, W, F, Rl, p.of_bind.mono fun ds W1 q vs F1 H1 s1 R1 hv => ?_⟩
  obtain ⟨zs, hz, q2⟩ := q.of_ofO
  rcases ds with _ | ⟨d, _ | ⟨d2, ds⟩⟩
  · cases hz
  · cases d <;> simp only [rngOf] at hz <;> try (cases hz; done)
    split at hz
    · cases hz
      rename_i n hn
      cases hv with
      | cons h1 h2 =>
        cases h2
        cases h1
        exact ⟨n, rfl, by omega, by omega, q2 _ F1 H1 s1 R1 wd_rng⟩
    · cases hz
  · cases d <;> cases hz
/-- what stands for a sequence -/
theorem seq_of {K : PySem.W.Frag} {F : Hp} {v : V} {d : Dt} {ds : List Dt} (h : Dq K F v d) (e : seqOf d = some ds) : ∃ (k : Bool) (a : Addr) (xs : List V), v = .ref a ∧ ((k = true ∧ SqT K F a xs) ∨ (k = false ∧ SqL K F a xs)) ∧ DqAll K F xs ds := by
  cases h <;> simp only [seqOf] at e <;> try (cases e; done)
  · cases e; exact ⟨false, _, _, rfl, .inr ⟨rfl, by assumption⟩, by assumption⟩
  · cases e; exact ⟨true, _, _, rfl, .inl ⟨rfl, by assumption⟩, by assumption⟩
theorem i_enum (hg : Gl X "enumerate") (hm : X.mg "enumerate" = none) (ha : PA X [e] (tA X.K XE ga)) (hs : starEach [e] X.env = [(false, eval e X.env)] := by rfl) : PI X (.Tuple elts kk tpos) (.Call (.Name "enumerate" p) [e] [] pos) (tI X.K XE (iEnum' ga)) := by
  refine (pi_enumK hg hm ha hs).weak fun σ H R ⟨G, ρ, W, F, Rl, p⟩ => ⟨G, ρ, W, F, Rl, p.of_bind.mono fun ds W1 q vs F1 H1 s1 R1 hv => ?_⟩
  obtain ⟨zs, hz, q2⟩ := q.of_ofO
  rcases ds with _ | ⟨d, _ | ⟨d2, ds⟩⟩
  · cases hz
  · have hz : (seqOf d).map (enumD 0) = some zs := hz
    cases hq : seqOf d with
    | none => rw [hq] at hz; cases hz
    | some es =>
      rw [hq] at hz
      cases hz
      cases hv with
      | cons h1 h2 =>
        cases h2
        obtain ⟨k, a, xs, rfl, hs, hd⟩ := seq_of h1 hq
        exact ⟨k, a, xs, rfl, sqK_of R1.fh hs, q2 _ F1 H1 s1 R1 (wd_enum hs hd)⟩
  · cases hz
theorem i_zip (hg : Gl X "zip") (hm : X.mg "zip" = none) (ha : PA X [a, b] (tA X.K XE ga))
    (hs : starEach [a, b] X.env = (false, eval a X.env) :: starEach [b] X.env := by rfl) (hpl : (backTo pos (starEach [b] X.env)).any (·.1) = false := by rfl) : PI X (.Tuple elts kk tpos) (.Call (.Name "zip" p) [a, b] [] pos) (tI X.K XE (iZip' ga)) := by
  refine (pi_zipK hg hm ha hs hpl).weak fun σ H R ⟨G, ρ, W, F, Rl, p⟩ => ⟨G, ρ, W, F, Rl, p.of_bind.mono fun ds W1 q vs F1 H1 s1 R1 hv => ?_⟩
  obtain ⟨zs, hz, q2⟩ := q.of_ofO
  rcases ds with _ | ⟨d, _ | ⟨d2, _ | ⟨d3, ds⟩⟩⟩
  · cases hz
  · cases hz
  · have hz : ((seqOf d).bind fun x => (seqOf d2).map fun y => zipD x y) = some zs := hz
    cases hq : seqOf d with
    | none => rw [hq] at hz; cases hz
    | some es =>
      rw [hq] at hz
      have hz : ((seqOf d2).map fun y => zipD es y) = some zs := hz
      cases hq2 : seqOf d2 with
      | none => rw [hq2] at hz; cases hz
      | some es2 =>
        rw [hq2] at hz
        cases hz
        cases hv with
        | cons h1 h2 =>
          cases h2 with
          | cons h2 h3 =>
            cases h3
            obtain ⟨k, a, xs, rfl, hs, hd⟩ := seq_of h1 hq
            obtain ⟨l, b, ys, rfl, hs', hd'⟩ := seq_of h2 hq2
            exact ⟨k, l, a, b, xs, ys, rfl, sqK_of R1.fh hs, sqK_of R1.fh hs', q2 _ F1 H1 s1 R1 (wd_zip hs hs' hd hd')⟩
  · cases hz
end

/-! ### targets -/
abbrev SG := Dt → Sl → Option Sl
def gN (i : Nat) : SG := fun d ρ => if i < ρ.length then some (ρ.set i (some (.d d))) else none
abbrev SGs := List Dt → Sl → Option Sl
def gsNil : SGs := fun ds ρ => match ds with
  | [] => some ρ
  | _ => none
def gsCons (g : SG) (gs : SGs) : SGs := fun ds ρ => match ds with
  | d :: ds => (g d ρ).bind (gs ds)
  | [] => none
def gTu (n : Nat) (gs : SGs) : SG := fun d ρ => match d with
  | .tuple ds => if ds.length = n then gs ds ρ else none
  | _ => none
def tG (K : PySem.W.Frag) (is : List Nat) (g : SG) : TG := fun v σ H Q => ∃ G ρ W F d ρ', Rel K G ρ W σ F H ∧ Dq K F v d ∧ g d ρ = some ρ' ∧
  ((∀ j, j ∉ is → ρ'[j]? = ρ[j]?) → ∀ σ', σ'.length = σ.length → (∀ j, j ∉ is → σ'[j]? = σ[j]?) → Rel K G ρ' W σ' F H → Q σ' H)
def tGs (K : PySem.W.Frag) (is : List Nat) (g : SGs) : TGs := fun vs σ H Q => ∃ G ρ W F ds ρ', Rel K G ρ W σ F H ∧ DqAll K F vs ds ∧ g ds ρ = some ρ' ∧
  ((∀ j, j ∉ is → ρ'[j]? = ρ[j]?) → ∀ σ', σ'.length = σ.length → (∀ j, j ∉ is → σ'[j]? = σ[j]?) → Rel K G ρ' W σ' F H → Q σ' H)
theorem Rel.setD {K : PySem.W.Frag} {G : Gh} {ρ : Sl} {W : Tw} {σ : L2.St} {F H : Hp} {i : Nat} {v : V} {d : Dt} (R : Rel K G ρ W σ F H) (hi : i < ρ.length) (hv : Dq K F v d) : Rel K G (ρ.set i (some (.d d))) W (σ.set i (some v)) F H := by
  refine ⟨R.gr, by rw [List.length_set, List.length_set]; exact R.len, R.t0, R.t1, R.tw, fun j sv e => ?_, R.dj, R.fr, R.ex⟩
  by_cases hj : i = j
  · subst hj
    rw [List.getElem?_set_self hi] at e
    cases e
    exact ⟨v, List.getElem?_set_self (by rw [← R.len]; exact hi), hv⟩
  · rw [List.getElem?_set_ne hj] at e ⊢
    exact R.sl j sv e
section
variable {X : Cx} {pos : Pos}
theorem g_name {i : Nat} {x : Str} (h : PG X (.Name x pos) (gName i)) : PG X (.Name x pos) (tG X.K [i] (gN i)) := by
  refine h.weak fun v σ H Q ⟨G, ρ, W, F, d, ρ', R, hv, hg, q⟩ => ?_
  unfold gN at hg
  split at hg
  · cases hg
    rename_i hi
    exact q (fun j hj => by rw [List.getElem?_set_ne (by simp at hj; exact Ne.symm hj)]) (σ.set i (some v)) (by simp) (fun j hj => by rw [List.getElem?_set_ne (by simp at hj; exact Ne.symm hj)]) (R.setD hi hv)
  · cases hg
theorem gs_nil : PGs X [] (tGs X.K [] gsNil) := by
  refine pgs_nil.weak fun vs σ H Q ⟨G, ρ, W, F, ds, ρ', R, hv, hg, q⟩ => ?_
  cases hv with
  | nil =>
    cases hg
    exact ⟨rfl, q (fun _ _ => rfl) σ rfl (fun _ _ => rfl) R⟩
  | cons _ _ => cases hg
theorem gs_cons {e : Expr} {es : List Expr} {is js : List Nat} {g : SG} {gs : SGs} (h1 : PG X e (tG X.K is g)) (h2 : PGs X es (tGs X.K js gs))
    (hs : (assignEach (e :: es) X.env).map (·.2) = assign e X.env :: (assignEach es X.env).map (·.2) := by rfl) : PGs X (e :: es) (tGs X.K (is ++ js) (gsCons g gs)) := by
  refine (pgs_cons h1 h2 hs).weak fun vs σ H Q ⟨G, ρ, W, F, ds, ρ', R, hv, hg, q⟩ => ?_
  cases hv with
  | nil => cases hg
  | @cons v vs d ds hv1 hv2 =>
    have hg : (g d ρ).bind (gs ds) = some ρ' := hg
    cases hg1 : g d ρ with
    | none => rw [hg1] at hg; cases hg
    | some ρ1 =>
      rw [hg1] at hg
      refine ⟨v, vs, rfl, G, ρ, W, F, d, ρ1, R, hv1, hg1, fun hk1 σ1 l1 e1 R1 => ⟨G, ρ1, W, F, ds, ρ', R1, hv2, hg, fun hk2 σ2 l2 e2 R2 => ?_⟩⟩
      refine q (fun j hj => ?_) σ2 (l2.trans l1) (fun j hj => ?_) R2
      · rw [List.mem_append, not_or] at hj
        exact (hk2 j hj.2).trans (hk1 j hj.1)
      · rw [List.mem_append, not_or] at hj
        exact (e2 j hj.2).trans (e1 j hj.1)
theorem g_tup {es : List Expr} {k : Nat} {is : List Nat} {gs : SGs} {n : Nat} (hc : X.calm = true) (h : PGs X es (tGs X.K is gs))
    (hn : (assignEach es X.env).length = n := by rfl) (hst : (assignEach es X.env).findIdx? (·.1) = none := by rfl) : PG X (.Tuple es k pos) (tG X.K is (gTu n gs)) := by
  refine (pg_tup hc h hn hst).weak fun v σ H Q ⟨G, ρ, W, F, d, ρ', R, hv, hg, q⟩ => ?_
  cases d <;> simp only [gTu] at hg <;> try (cases hg; done)
  split at hg
  · rename_i hl
    cases hv with
    | tup h1 h2 => exact ⟨_, _, rfl, sqT_mono R.fh h1, by rw [h2.length]; exact hl, G, ρ, W, F, _, ρ', R, h2, hg, q⟩
  · cases hg
end
end Sx

namespace Sx
open PySem PySem.Spec PyProof.Rows L2

/-! ### slots forgotten, things held aside -/
def wipeS (ρ : Sl) : List Nat → Sl
  | [] => ρ
  | v :: vs => (wipeS ρ vs).set v none
def wipeOk (ρ : Sl) (vs : List Nat) : Bool := vs.all fun j => match ρ[j]? with
  | some (some (.d _)) => true
  | some (some _) => false
  | _ => true
theorem wipeS_length (ρ : Sl) : ∀ vs : List Nat, (wipeS ρ vs).length = ρ.length
  | [] => rfl
  | v :: vs => by unfold wipeS; rw [List.length_set, wipeS_length ρ vs]
theorem wipeS_some {ρ : Sl} {i : Nat} {x : SV} : ∀ {vs : List Nat}, (wipeS ρ vs)[i]? = some (some x) → ρ[i]? = some (some x) ∧ i ∉ vs
  | [], h => ⟨h, by simp⟩
  | v :: vs, h => by
    unfold wipeS at h
    by_cases hi : v = i
    · subst hi
      by_cases hv : v < (wipeS ρ vs).length
      · rw [List.getElem?_set_self hv] at h; cases h
      · rw [List.getElem?_eq_none (by simpa using hv)] at h; cases h
    · rw [List.getElem?_set_ne hi] at h
      obtain ⟨h1, h2⟩ := wipeS_some h
      exact ⟨h1, by simp only [List.mem_cons, not_or]; exact ⟨fun e => hi e.symm, h2⟩⟩
theorem wipeS_out {ρ : Sl} {i : Nat} : ∀ {vs : List Nat}, i ∉ vs → (wipeS ρ vs)[i]? = ρ[i]?
  | [], _ => rfl
  | v :: vs, h => by
    simp only [List.mem_cons, not_or] at h
    unfold wipeS
    rw [List.getElem?_set_ne (Ne.symm h.1), wipeS_out h.2]
theorem wipe_in {σ : L2.St} {i : Nat} : ∀ {vs : List Nat}, i ∈ vs → (wipe σ vs)[i]? = if i < σ.length then some none else none
  | [], h => by simp at h
  | v :: vs, h => by
    unfold wipe
    by_cases hi : v = i
    · subst hi
      by_cases hv : v < σ.length
      · rw [List.getElem?_set_self (by rw [wipe_length]; exact hv), if_pos hv]
      · rw [List.getElem?_eq_none (by rw [List.length_set, wipe_length]; omega), if_neg hv]
    · rw [List.getElem?_set_ne hi]
      exact wipe_in (by rcases List.mem_cons.mp h with z | z; exact absurd z.symm hi; exact z)
theorem wipe_eq {σ σ2 : L2.St} {is vs : List Nat} (hl : σ2.length = (wipe σ vs).length) (h : ∀ j, j ∉ is → σ2[j]? = (wipe σ vs)[j]?) (hs : ∀ j ∈ is, j ∈ vs) : wipe σ2 vs = wipe σ vs := by
  rw [wipe_length] at hl
  refine List.ext_getElem? fun j => ?_
  by_cases hj : j ∈ vs
  · rw [wipe_in hj, wipe_in hj, hl]
  · rw [wipe_out hj, h j fun z => hj (hs j z)]
section
variable {K : PySem.W.Frag} {G : Gh} {ρ ρ' : Sl} {W W' : Tw} {σ σ' : L2.St} {F H F' H' : Hp} {p : Addr} {o o' : HO} {E : List (Addr × HO)}
theorem Rel.wiped (R : Rel K G ρ W σ F H) (vs : List Nat) : Rel K G (wipeS ρ vs) W (wipe σ vs) F H :=
  ⟨R.gr, by rw [wipeS_length, wipe_length]; exact R.len, R.t0, R.t1, R.tw, fun i sv e => by
    obtain ⟨h1, h2⟩ := wipeS_some e
    obtain ⟨v, h3, h4⟩ := R.sl i sv h1
    exact ⟨v, by rw [wipe_out h2]; exact h3, h4⟩, R.dj, R.fr, R.ex⟩
theorem Rel.unwiped {vs : List Nat} (R : Rel K G ρ W σ F H) (R' : Rel K G (wipeS ρ vs) W' (wipe σ vs) F' H') (s : Same F F') (ok : wipeOk ρ vs = true) : Rel K G ρ W' σ F' H' :=
  ⟨R'.gr, R.len, R'.t0, R'.t1, R'.tw, fun i sv e => by
    by_cases hi : i ∈ vs
    · obtain ⟨v, h1, h2⟩ := R.sl i sv e
      have hk := List.all_eq_true.mp ok i hi
      rw [e] at hk
      cases sv <;> simp at hk
      exact ⟨v, h1, Dq.mono h2 s⟩
    · obtain ⟨v, h1, h2⟩ := R'.sl i sv (by rw [wipeS_out hi]; exact e)
      exact ⟨v, by rw [wipe_out hi] at h1; exact h1, h2⟩, R'.dj, R'.fr, R'.ex⟩
theorem Rel.restrict (R : Rel K G ρ' W σ' F H) (hl : ρ.length = σ.length) (h : ∀ (i : Nat) (sv : SV), ρ[i]? = some (some sv) → ρ'[i]? = some (some sv) ∧ σ'[i]? = σ[i]?) : Rel K G ρ W σ F H :=
  ⟨R.gr, hl, R.t0, R.t1, R.tw, fun i sv e => by
    obtain ⟨h1, h2⟩ := h i sv e
    obtain ⟨v, h3, h4⟩ := R.sl i sv h1
    exact ⟨v, by rw [← h2]; exact h3, h4⟩, R.dj, R.fr, R.ex⟩
/-- a thing that none of the state's has is held aside -/
theorem Rel.aside (R : Rel K G ρ W σ F H) (hp : H p = some o) (hF : F p = none) (fr : Fresh G p) : Rel K { G with ext := (p, o) :: G.ext } ρ W σ F H :=
  ⟨R.gr, R.len, R.t0, R.t1, R.tw, R.sl, R.dj, R.fr, fun e he => by
    rcases List.mem_cons.mp he with z | z
    · subst z
      exact ⟨hp, hF, fr.2.2.1, fr.2.1⟩
    · exact R.ex e z⟩
theorem Rel.dropExt {e : Addr × HO} (R : Rel K { G with ext := e :: E } ρ W σ F H) : Rel K { G with ext := E } ρ W σ F H :=
  ⟨R.gr, R.len, R.t0, R.t1, R.tw, R.sl, R.dj, R.fr, fun e he => R.ex e (List.mem_cons_of_mem _ he)⟩
theorem Rel.setExt (R : Rel K { G with ext := (p, o) :: E } ρ W σ F H) (hn : ∀ e ∈ E, e.1 ≠ p) (h0 : G.H0 p = none) : Rel K { G with ext := (p, o') :: E } ρ W σ F (upd H p o') := by
  obtain ⟨e1, e2, e3, e4⟩ := R.ex (p, o) (List.mem_cons_self ..)
  simp only at e1 e2 e3 e4
  refine ⟨⟨R.gr.ff, same_mut R.fh e2, R.gr.nw, fun a u e n => ?_, fun a e => ?_⟩, R.len, R.t0, R.t1, ?_, fun i sv e => ?_, R.dj, fun i a ha => ?_, fun e he => ?_⟩
  · have : a ≠ p := fun z => by rw [z, h0] at e; cases e
    rw [upd_ne this]; exact R.gr.kp a u e n
  · by_cases ha : a = p
    · subst ha; rw [upd_same]; exact fun z => nomatch z
    · rw [upd_ne ha]; exact R.gr.th a e
  · have t := R.tw
    revert t
    show TwOk K F H G.T W → TwOk K F (upd H p o') G.T W
    cases hT : G.T <;> cases W <;> intro t
    · trivial
    · exact t
    · exact t
    · obtain ⟨tv, h1, h2, h3⟩ := t
      exact ⟨tv, by rw [upd_ne (fun z => e3 (by rw [← z]; exact hT))]; exact h1, h2, h3⟩
  · obtain ⟨v, h1, h2⟩ := R.sl i sv e
    have k : ∀ a, H a ≠ none → a ∈ G.fp i → upd H p o' a = H a := fun a _ ha => upd_ne fun z => e4 i (by rw [← z]; exact ha)
    exact ⟨v, h1, h2.keep (.refl _) k k⟩
  · obtain ⟨h1, h2, h3, h4⟩ := R.fr i a ha
    exact ⟨h1, by rw [upd_ne fun z => e4 i (by rw [← z]; exact ha)]; exact h2, h3, h4⟩
  · rcases List.mem_cons.mp he with z | z
    · subst z
      exact ⟨upd_same, e2, e3, e4⟩
    · obtain ⟨h1, h2, h3, h4⟩ := R.ex e (List.mem_cons_of_mem _ z)
      exact ⟨by rw [upd_ne (hn e z)]; exact h1, h2, h3, h4⟩
end

/-! ### comprehensions -/
def nox {α : Type} : Res α → Res α
  | .ok a => .ok a
  | _ => .bad
@[simp] theorem nox_ok {α : Type} (a : α) : nox (.ok a) = .ok a := rfl
def cL (g : SG) (c : SB) (e : SE) (ρ0 : Sl) : List Dt → Tw → Res (List Dt × Tw)
  | [], W => .ok ([], W)
  | d :: ds, W => match g d ρ0 with
    | none => .bad
    | some ρ1 => (nox (c ρ1 W)).bind fun p => if p.1 = true then (nox (e ρ1 p.2)).bind fun q => (cL g c e ρ0 ds q.2).bind fun r => .ok (q.1 :: r.1, r.2) else cL g c e ρ0 ds p.2
def lComp (it : SA) (g : SG) (c : SB) (e : SE) (vs : List Nat) : SA := fun ρ W => (it ρ W).bind fun p => if p.1.length ≤ 100000 ∧ wipeOk ρ vs = true then cL g c e (wipeS ρ vs) p.1 p.2 else .bad
def bYes : SB := fun _ W => .ok (true, W)
abbrev X0 : Str → Hp → Prop := fun _ _ => False
theorem cL_cases {g : SG} {c : SB} {e : SE} {ρ0 : Sl} {d : Dt} {ds : List Dt} {W : Tw} {zs : List Dt} {Wf : Tw} (h : cL g c e ρ0 (d :: ds) W = .ok (zs, Wf)) :
    ∃ ρ1 b W1, g d ρ0 = some ρ1 ∧ c ρ1 W = .ok (b, W1) ∧ ((b = false ∧ cL g c e ρ0 ds W1 = .ok (zs, Wf)) ∨ (b = true ∧ ∃ z W2 r, e ρ1 W1 = .ok (z, W2) ∧ cL g c e ρ0 ds W2 = .ok (r, Wf) ∧ zs = z :: r)) := by
  unfold cL at h
  cases hg : g d ρ0 with
  | none => rw [hg] at h; cases h
  | some ρ1 =>
    simp only [hg] at h
    cases hc : c ρ1 W with
    | exc x => rw [hc] at h; cases h
    | bad => rw [hc] at h; cases h
    | ok p =>
      obtain ⟨b, W1⟩ := p
      rw [hc] at h
      simp only [nox_ok, Res.bind_ok] at h
      refine ⟨ρ1, b, W1, rfl, hc, ?_⟩
      cases b with
      | false => exact .inl ⟨rfl, by simpa using h⟩
      | true =>
        simp only [if_true] at h
        cases he : e ρ1 W1 with
        | exc x => rw [he] at h; cases h
        | bad => rw [he] at h; cases h
        | ok q =>
          obtain ⟨z, W2⟩ := q
          rw [he] at h
          simp only [nox_ok, Res.bind_ok] at h
          cases hr : cL g c e ρ0 ds W2 with
          | exc x => rw [hr] at h; cases h
          | bad => rw [hr] at h; cases h
          | ok r =>
            rw [hr] at h
            simp only [Res.bind_ok, Res.ok.injEq, Prod.mk.injEq] at h
            obtain ⟨h1, h2⟩ := h
            exact .inr ⟨rfl, z, W2, r.1, rfl, by rw [hr, ← h2], h1.symm⟩
theorem cL_noexc {g : SG} {c : SB} {e : SE} {ρ0 : Sl} : ∀ {ds : List Dt} {W : Tw} {x : Str}, cL g c e ρ0 ds W ≠ .exc x
  | [], W, x, h => by cases h
  | d :: ds, W, x, h => by
    unfold cL at h
    cases hg : g d ρ0 with
    | none => rw [hg] at h; cases h
    | some ρ1 =>
      simp only [hg] at h
      cases hc : c ρ1 W with
      | exc x => rw [hc] at h; cases h
      | bad => rw [hc] at h; cases h
      | ok p =>
        obtain ⟨b, W1⟩ := p
        rw [hc] at h
        simp only [nox_ok, Res.bind_ok] at h
        cases b with
        | false => exact cL_noexc (by simpa using h)
        | true =>
          simp only [if_true] at h
          cases he : e ρ1 W1 with
          | exc x => rw [he] at h; cases h
          | bad => rw [he] at h; cases h
          | ok q =>
            obtain ⟨z, W2⟩ := q
            rw [he] at h
            simp only [nox_ok, Res.bind_ok] at h
            cases hr : cL g c e ρ0 ds W2 with
            | exc x => exact cL_noexc hr
            | bad => rw [hr] at h; cases h
            | ok r => rw [hr] at h; cases h
section
variable {X : Cx} {XE : Str → Hp → Prop} {it : SA} {g : SG} {c : SB} {e : SE} {is vs : List Nat}
theorem comp_of (hsub : ∀ j ∈ is, j ∈ vs) {σ : L2.St} {H : Hp} {Q : VK} (h : tL X.K XE (lComp it g c e vs) σ H Q) : tLc (tI X.K XE it) (tG X.K is g) (tT X.K X0 c) (tE X.K X0 e) vs σ H Q := by
  obtain ⟨G, ρ, W, F, R, p⟩ := h
  refine ⟨G, ρ, W, F, R, p.of_bind.mono fun ds W1 q J F1 H1 s1 R1 wk D hD => ?_⟩
  obtain ⟨⟨hlen, hok⟩, q⟩ := Pg.of_ite q
  simp only at hlen
  have hcl : ∃ zs Wf, cL g c e (wipeS ρ vs) ds W1 = .ok (zs, Wf) := by
    cases hz : cL g c e (wipeS ρ vs) ds W1 with
    | ok r => exact ⟨r.1, r.2, rfl⟩
    | exc x => exact absurd hz cL_noexc
    | bad => simp only [hz] at q; exact q.elim
  obtain ⟨zs, Wf, hcl⟩ := hcl
  simp only [hcl] at q
  have fr := R1.fresh hD
  have RD : Rel X.K { G with ext := (D, .lst []) :: G.ext } (wipeS ρ vs) W1 (wipe σ vs) F1 (upd H1 D (.lst [])) :=
    ((R1.grow (Gr.newH R1.fh hD)).aside upd_same (R1.fh.free hD) fr).wiped vs
  refine lc_it wk (fun i H2 => ∃ Wi Fi av acc rest, Rel X.K { G with ext := (D, .lst av) :: G.ext } (wipeS ρ vs) Wi (wipe σ vs) Fi H2 ∧ Same F1 Fi ∧ DqAll X.K Fi av acc ∧ cL g c e (wipeS ρ vs) (ds.drop i) Wi = .ok (rest, Wf) ∧ zs = acc ++ rest ∧ acc.length ≤ i)
    ⟨W1, F1, [], [], zs, RD, .refl _, .nil, by rw [List.drop_zero]; exact hcl, rfl, Nat.le_refl _⟩ (fun i H2 _ ⟨Wi, Fi, _, _, _, Ri, si, _⟩ => ⟨Fi, si, Ri.fh⟩) ?_ ?_
  · rintro i x H2 H3 hi ⟨Wi, Fi, av, acc, rest, Ri, si, da, hc, hzs, hal⟩ hy
    obtain ⟨F3, d, hd, gr, hx⟩ := hy Fi si Ri.fh
    have hdrop : ds.drop i = d :: ds.drop (i + 1) := by
      obtain ⟨h1, h2⟩ := List.getElem?_eq_some_iff.mp hd
      rw [List.drop_eq_getElem_cons h1, h2]
    rw [hdrop] at hc
    obtain ⟨ρ1, b, W2, hg, hb, hrest⟩ := cL_cases hc
    have R3 := Ri.grow gr
    refine ⟨_, wipeS ρ vs, Wi, F3, d, ρ1, R3, hx, hg, fun hk σ2 hl hj R4 => ⟨wipe_eq hl hj hsub, _, ρ1, Wi, F3, R4, ?_⟩⟩
    have back : ∀ {W5 : Tw} {F5 H5 : Hp} {av' : List V}, Rel X.K { G with ext := (D, .lst av') :: G.ext } ρ1 W5 σ2 F5 H5 → Rel X.K { G with ext := (D, .lst av') :: G.ext } (wipeS ρ vs) W5 (wipe σ vs) F5 H5 := fun R5 =>
      R5.restrict (by rw [wipeS_length, wipe_length]; exact R.len) fun j sv ej => by
        obtain ⟨_, hjv⟩ := wipeS_some ej
        exact ⟨by rw [hk j fun z => hjv (hsub j z)]; exact ej, hj j fun z => hjv (hsub j z)⟩
    rw [hb]
    intro F4 H4 s4 R5
    rcases hrest with ⟨rfl, hr⟩ | ⟨rfl, z, W3, r, he, hr, hz⟩
    · simp only [Bool.false_eq_true, if_false]
      exact ⟨W2, F4, av, acc, rest, back R5, (si.trans gr.ff).trans s4, da.mono (gr.ff.trans s4), hr, hzs, by omega⟩
    · simp only [if_true]
      refine ⟨_, ρ1, W2, F4, R5, ?_⟩
      rw [he]
      intro v F5 H5 s5 R6 hv
      obtain ⟨x1, x2, x3, x4⟩ := R6.ex (D, .lst av) (List.mem_cons_self ..)
      have sF : Same Fi F5 := (gr.ff.trans s4).trans s5
      have hle : acc.length < 100000 := by omega
      refine ⟨av, x1, Nat.lt_of_lt_of_le (by rw [da.length]; exact hle) (sz5 (Nat.le_refl _)), W3, F5, av ++ [v], acc ++ [z], r, back (R6.setExt fr.2.2.2 fr.1), si.trans sF, (da.mono sF).append (.one hv), hr, ?_, ?_⟩
      · rw [hzs, hz, List.append_assoc]; rfl
      · rw [List.length_append, List.length_singleton]; omega
  · rintro H2 ⟨Wi, Fi, av, acc, rest, Ri, si, da, hc, hzs, hal⟩
    rw [List.drop_length] at hc
    have hc : Res.ok (([] : List Dt), Wi) = .ok (rest, Wf) := hc
    cases hc
    rw [List.append_nil] at hzs
    subst hzs
    obtain ⟨x1, x2, x3, x4⟩ := Ri.ex (D, .lst av) (List.mem_cons_self ..)
    exact q D av Fi H2 (s1.trans si) (R1.unwiped Ri.dropExt si hok) fr x1 x2 da
variable {elt tg iter : Expr} {ifs : List Expr} {scope : Scope} {own : List (Str × Nat)} {pos : Pos}
theorem l_comp (hc : X.calm = true) (hN : X.N.Nodup) (hi : PI X tg iter (tI X.K XE it)) (ok : BlkOk X.N X.env.scope scope own)
    (hg : ∀ (s : Shared) (H : Hp) (C : Addr) (cl : List (Str × Addr)) (fp : List Addr), PG (X.blk s H scope (compEnvC scope cl C X.env) fp) tg (tG X.K is g)) (ht : ∀ (s : Shared) (H : Hp) (C : Addr) (cl : List (Str × Addr)) (fp : List Addr), PTs (X.blk s H scope (compEnvC scope cl C X.env) fp) ifs (tT X.K X0 c))
    (he : ∀ (s : Shared) (H : Hp) (C : Addr) (cl : List (Str × Addr)) (fp : List Addr), PE (X.blk s H scope (compEnvC scope cl C X.env) fp) elt (tE X.K X0 e)) (hsub : ∀ j ∈ is, j ∈ own.map (·.2)) (hs : ∀ x, foldedSetIterable iter X.env x = pure x := by intro _; rfl) :
    PE X (.ListComp elt [⟨tg, iter, ifs, 0⟩] scope pos) (tL X.K XE (lComp it g c e (own.map (·.2)))) := (pe_lc hc hN hi ok hg ht he hs).weak fun _ _ _ => comp_of hsub
theorem t_yes : PTs X [] (tT X.K XE bYes) := ⟨fun pins s σ H Q I ⟨G, ρ, W, F, R, p⟩ => pts_nil.run pins s σ H Q I (p F H (.refl _) R)⟩
theorem t_one {b : Expr} (h : PT X b (tT X.K XE c)) : PTs X [b] (tT X.K XE c) := pts_one h
end
end Sx

namespace Sx
open PySem PySem.Spec PyProof.Rows L2

/-! ### statements -/
inductive Out where
  | nx (ρ : Sl) (W : Tw) | rt (r : SV) (W : Tw) | exc (c : Str) | bad
abbrev SS := Sl → Tw → Out
structure SameB (G G' : Gh) : Prop where
  T0 : G'.T0 = G.T0
  F0 : G'.F0 = G.F0
  H0 : G'.H0 = G.H0
  ext : G'.ext = G.ext
theorem SameB.refl (G : Gh) : SameB G G := ⟨rfl, rfl, rfl, rfl⟩
theorem SameB.trans {A B C : Gh} (a : SameB A B) (b : SameB B C) : SameB A C := ⟨b.T0.trans a.T0, b.F0.trans a.F0, b.H0.trans a.H0, b.ext.trans a.ext⟩
theorem SameB.symm {A B : Gh} (a : SameB A B) : SameB B A := ⟨a.T0.symm, a.F0.symm, a.H0.symm, a.ext.symm⟩
def RV (K : PySem.W.Frag) (G : Gh) (F H : Hp) (v : V) : SV → Prop
  | .d x => Dq K F v x
  | .own xs => ∃ p vs, v = .ref p ∧ G.H0 p = none ∧ H p = some (.lst vs) ∧ F p = none ∧ DqAll K F vs xs
  | _ => False
def Po (K : PySem.W.Frag) (XE : Str → Hp → Prop) (G : Gh) (F : Hp) (r : Out) (D : Ends) : Prop := match r with
  | .nx ρ' W' => ∀ G' σ' F' H', SameB G G' → Same F F' → Rel K G' ρ' W' σ' F' H' → D.nx σ' H'
  | .rt r W' => ∀ G' ρ' σ' v F' H', SameB G G' → Same F F' → Rel K G' ρ' W' σ' F' H' → RV K G' F' H' v r → D.rt v H'
  | .exc c => ∀ F' H', Gr G.tm G.F0 G.H0 F' H' → XE c H'
  | .bad => False
def tS (K : PySem.W.Frag) (XE : Str → Hp → Prop) (f : SS) : TS := fun D σ H => ∃ G ρ W F, Rel K G ρ W σ F H ∧ Po K XE G F (f ρ W) D
theorem Po.shift {K : PySem.W.Frag} {XE : Str → Hp → Prop} {G G' : Gh} {F F' : Hp} {r : Out} {D : Ends} (h : Po K XE G F r D) (b : SameB G G') (s : Same F F') : Po K XE G' F' r D := by
  cases r with
  | nx ρ W => exact fun G2 σ2 F2 H2 b2 s2 R2 => h G2 σ2 F2 H2 (b.trans b2) (s.trans s2) R2
  | rt r W => exact fun G2 ρ2 σ2 v F2 H2 b2 s2 R2 => h G2 ρ2 σ2 v F2 H2 (b.trans b2) (s.trans s2) R2
  | exc c => exact fun F2 H2 g => h F2 H2 (by
      unfold Gh.tm at g ⊢
      rw [b.T0, b.F0, b.H0] at g
      exact g)
  | bad => exact h
def rOut {α : Type} (r : Res (α × Tw)) (k : α → Tw → Out) : Out := match r with
  | .ok p => k p.1 p.2
  | .exc c => .exc c
  | .bad => .bad
@[simp] theorem rOut_ok {α : Type} (p : α × Tw) (k : α → Tw → Out) : rOut (.ok p) k = k p.1 p.2 := rfl
theorem Po.of_rOut {α : Type} {K : PySem.W.Frag} {XE : Str → Hp → Prop} {G : Gh} {F : Hp} {r : Res (α × Tw)} {k : α → Tw → Out} {D : Ends} (h : Po K XE G F (rOut r k) D) : Pg XE G r fun a W' => Po K XE G F (k a W') D := by
  cases r with
  | ok p => exact h
  | exc c => exact h
  | bad => exact h
theorem Po.of_ite {K : PySem.W.Frag} {XE : Str → Hp → Prop} {G : Gh} {F : Hp} {c : Prop} [Decidable c] {r : Out} {D : Ends} (h : Po K XE G F (if c then r else .bad) D) : c ∧ Po K XE G F r D := by
  by_cases hc : c
  · rw [if_pos hc] at h; exact ⟨hc, h⟩
  · rw [if_neg hc] at h; exact h.elim
def sPass : SS := fun ρ W => .nx ρ W
def sSeq (a b : SS) : SS := fun ρ W => match a ρ W with
  | .nx ρ1 W1 => b ρ1 W1
  | r => r
def sNever : SS := fun _ _ => .bad
def sExpr (e : SE) : SS := fun ρ W => rOut (e ρ W) fun _ W1 => .nx ρ W1
def sRet (e : SE) : SS := fun ρ W => rOut (e ρ W) fun d W1 => .rt (.d d) W1
def sRetL (f : SA) : SS := fun ρ W => rOut (f ρ W) fun ds W1 => .rt (.own ds) W1
def sRetO (i : Nat) : SS := fun ρ W => match ρ[i]? with
  | some (some (.own xs)) => .rt (.own xs) W
  | _ => .bad
def sAsg (i : Nat) (e : SE) : SS := fun ρ W => rOut (e ρ W) fun d W1 => if i < ρ.length then .nx (ρ.set i (some (.d d))) W1 else .bad
def sAsgG (g : SG) (e : SE) : SS := fun ρ W => rOut (e ρ W) fun d W1 => match g d ρ with
  | some ρ' => .nx ρ' W1
  | none => .bad
def sOwn (i : Nat) (f : SA) : SS := fun ρ W => rOut (f ρ W) fun ds W1 => if i < ρ.length then .nx (ρ.set i (some (.own ds))) W1 else .bad
def sTown (i : Nat) (f : SA) : SS := fun ρ W => rOut (f ρ W) fun ds W1 => if i < ρ.length ∧ W1 = none then .nx (ρ.set i (some .town)) (some ds) else .bad
def sIf (c : SB) (a b : SS) : SS := fun ρ W => rOut (c ρ W) fun k W1 => if k = true then a ρ W1 else b ρ W1
def fL (g : SG) (body : SS) : List Dt → Sl → Tw → Out
  | [], ρ, W => .nx ρ W
  | d :: ds, ρ, W => match g d ρ with
    | none => .bad
    | some ρ1 => match body ρ1 W with
      | .nx ρ2 W2 => fL g body ds ρ2 W2
      | r => r
def sFor (it : SA) (g : SG) (body : SS) : SS := fun ρ W => rOut (it ρ W) fun ds W1 => fL g body ds ρ W1
def wL (c : SB) (body : SS) : Nat → Sl → Tw → Out
  | 0, _, _ => .bad
  | n + 1, ρ, W => rOut (c ρ W) fun k W1 => if k = true then (match body ρ W1 with
    | .nx ρ2 W2 => wL c body n ρ2 W2
    | r => r) else .nx ρ W1
def sWhile (fuel : Sl → Nat) (c : SB) (body : SS) : SS := fun ρ W => wL c body (fuel ρ) ρ W
def sApp (i : Nat) (e : SE) : SS := fun ρ W => match ρ[i]? with
  | some (some (.own xs)) => rOut (e ρ W) fun d W1 => if xs.length < 100000 then .nx (ρ.set i (some (.own (xs ++ [d])))) W1 else .bad
  | _ => .bad
def sExt (i : Nat) (f : SA) : SS := fun ρ W => match ρ[i]? with
  | some (some (.own xs)) => rOut (f ρ W) fun ds W1 => if xs.length + ds.length ≤ 100000 then .nx (ρ.set i (some (.own (xs ++ ds)))) W1 else .bad
  | _ => .bad
def setD (xs : List Dt) (k d : Dt) : Option (List Dt) := match k with
  | .int k => (ixN xs.length k).map fun j => xs.set j d
  | _ => none
def nxO (i : Nat) (o : Option (List Dt)) (ρ : Sl) (W : Tw) : Out := match o with
  | some ys => .nx (ρ.set i (some (.own ys))) W
  | none => .bad
def nxT (o : Option (List Dt)) (ρ : Sl) : Out := match o with
  | some ys => .nx ρ (some ys)
  | none => .bad
def sSet (i : Nat) (k e : SE) : SS := fun ρ W => match ρ[i]? with
  | some (some (.own xs)) => rOut (e ρ W) fun d W1 => rOut (k ρ W1) fun kd W2 => nxO i (setD xs kd d) ρ W2
  | _ => .bad
def sSetT (i : Nat) (k e : SE) : SS := fun ρ W => match ρ[i]? with
  | some (some .town) => rOut (e ρ W) fun d W1 => rOut (k ρ W1) fun kd W2 => match W2 with
    | some ws => nxT (setD ws kd d) ρ
    | none => .bad
  | _ => .bad
def eIxT (i : Nat) (k : SE) : SE := fun ρ W => match ρ[i]? with
  | some (some .town) => (k ρ W).bind fun p => match p.2 with
    | some ws => ofO (ixD (.list ws) p.1) p.2
    | none => .bad
  | _ => .bad
def frzS (i : Nat) (ρ : Sl) : Sl := match ρ[i]? with
  | some (some (.own xs)) => ρ.set i (some (.d (.list xs)))
  | _ => ρ
section
variable {K : PySem.W.Frag} {G : Gh} {ρ : Sl} {W : Tw} {σ : L2.St} {F H : Hp}
def Gh.own (G : Gh) (i : Nat) (p : Addr) : Gh := { G with fp := fun j => if j = i then [p] else G.fp j }
theorem Gh.own_same (G : Gh) (i : Nat) (p : Addr) : SameB G (G.own i p) := ⟨rfl, rfl, rfl, rfl⟩
/-- a new thing becomes slot i's own -/
theorem Rel.takeSv {i : Nat} {p : Addr} {o : HO} {sv : SV} (R : Rel K G ρ W σ F H) (hi : i < ρ.length) (fr : Fresh G p) (hp : H p = some o) (hF : F p = none) (hsv : SlOk K G.T F H (.ref p) [p] sv) :
    Rel K (G.own i p) (ρ.set i (some sv)) W (σ.set i (some (.ref p))) F H := by
  obtain ⟨f1, f2, f3, f4⟩ := fr
  have hne : ∀ j a, a ∈ (G.own i p).fp j → (j = i ∧ a = p) ∨ (j ≠ i ∧ a ∈ G.fp j) := fun j a ha => by
    unfold Gh.own at ha
    simp only at ha
    by_cases hj : j = i
    · rw [if_pos hj] at ha; exact .inl ⟨hj, List.mem_singleton.mp ha⟩
    · rw [if_neg hj] at ha; exact .inr ⟨hj, ha⟩
  refine ⟨R.gr, by rw [List.length_set, List.length_set]; exact R.len, R.t0, R.t1, R.tw, fun j sv e => ?_, fun j k a ha hb => ?_, fun j a ha => ?_, fun e he => ?_⟩
  · by_cases hj : i = j
    · subst hj
      rw [List.getElem?_set_self hi] at e
      cases e
      exact ⟨.ref p, List.getElem?_set_self (by rw [← R.len]; exact hi), by unfold Gh.own; simp only [if_true]; exact hsv⟩
    · rw [List.getElem?_set_ne hj] at e ⊢
      obtain ⟨v, h1, h2⟩ := R.sl j sv e
      exact ⟨v, h1, by unfold Gh.own; simp only [if_neg (Ne.symm hj)]; exact h2⟩
  · rcases hne j a ha with ⟨h1, h2⟩ | ⟨h1, h2⟩ <;> rcases hne k a hb with ⟨h3, h4⟩ | ⟨h3, h4⟩
    · rw [h1, h3]
    · rw [h2] at h4; exact absurd h4 (f2 k)
    · rw [h4] at h2; exact absurd h2 (f2 j)
    · exact R.dj j k a h2 h4
  · rcases hne j a ha with ⟨h1, h2⟩ | ⟨h1, h2⟩
    · rw [h2]
      have hpn : H p ≠ none := by
        rw [hp]
        exact fun z => nomatch z
      exact ⟨hF, hpn, f1, f3⟩
    · exact R.fr j a h2
  · obtain ⟨h1, h2, h3, h4⟩ := R.ex e he
    refine ⟨h1, h2, h3, fun j hj => ?_⟩
    rcases hne j _ hj with ⟨_, q⟩ | ⟨_, q⟩
    · exact f4 e he q
    · exact h4 j q
theorem Rel.takeOwn {i : Nat} {p : Addr} {vs : List V} {xs : List Dt} (R : Rel K G ρ W σ F H) (hi : i < ρ.length) (fr : Fresh G p) (hp : H p = some (.lst vs)) (hF : F p = none) (hd : DqAll K F vs xs) :
    Rel K (G.own i p) (ρ.set i (some (.own xs))) W (σ.set i (some (.ref p))) F H := R.takeSv hi fr hp hF ⟨p, vs, rfl, rfl, hp, hd⟩
/-- slot i's own list is changed -/
theorem Rel.mutOwn {i : Nat} {p : Addr} {xs ys : List Dt} {us : List V} (R : Rel K G ρ W σ F H) (hs : ρ[i]? = some (some (.own xs))) (hσ : σ[i]? = some (some (.ref p))) (hd : DqAll K F us ys) :
    Rel K G (ρ.set i (some (.own ys))) W σ F (upd H p (.lst us)) := by
  obtain ⟨v, h1, p', vs, h2, h3, h4, h5⟩ := R.sl i _ hs
  rw [hσ] at h1
  cases h1
  cases h2
  have hi : i < ρ.length := (List.getElem?_eq_some_iff.mp hs).1
  have hm : p ∈ G.fp i := by rw [h3]; simp
  obtain ⟨q1, q2, q3, q4⟩ := R.fr i p hm
  refine ⟨⟨R.gr.ff, same_mut R.fh q1, R.gr.nw, fun a u e n => ?_, fun a e => ?_⟩, by rw [List.length_set]; exact R.len, R.t0, R.t1, ?_, fun j sv e => ?_, R.dj, fun j a ha => ?_, fun e he => ?_⟩
  · rw [upd_ne (fun z => by rw [z, q3] at e; cases e)]
    exact R.gr.kp a u e n
  · by_cases ha : a = p
    · subst ha; rw [upd_same]; exact fun z => nomatch z
    · rw [upd_ne ha]; exact R.gr.th a e
  · have t := R.tw
    revert t
    cases hT : G.T <;> cases W <;> intro t
    · trivial
    · exact t
    · exact t
    · obtain ⟨tv, h1, h2, h3⟩ := t
      exact ⟨tv, by rw [upd_ne (fun z => q4 (by rw [hT, z]))]; exact h1, h2, h3⟩
  · by_cases hj : i = j
    · subst hj
      rw [List.getElem?_set_self hi] at e
      cases e
      exact ⟨.ref p, hσ, p, us, rfl, h3, upd_same, hd⟩
    · rw [List.getElem?_set_ne hj] at e
      obtain ⟨v, h1, h2⟩ := R.sl j sv e
      have k : ∀ a, H a ≠ none → a ∈ G.fp j → upd H p (.lst us) a = H a := fun a _ ha => upd_ne fun z => hj (R.dj i j p hm (by rw [← z]; exact ha))
      exact ⟨v, h1, h2.keep (.refl _) k k⟩
  · obtain ⟨h1, h2, h3, h4⟩ := R.fr j a ha
    refine ⟨h1, ?_, h3, h4⟩
    by_cases hz : a = p
    · subst hz; rw [upd_same]; exact fun z => nomatch z
    · rw [upd_ne hz]; exact h2
  · obtain ⟨h1, h2, h3, h4⟩ := R.ex e he
    exact ⟨by rw [upd_ne (fun z => h4 i (by rw [z]; exact hm))]; exact h1, h2, h3, h4⟩
/-- slot i's own list is told to all -/
theorem Rel.frz (R : Rel K G ρ W σ F H) (i : Nat) : ∃ G' F', SameB G G' ∧ Same F F' ∧ Rel K G' (frzS i ρ) W σ F' H := by
  unfold frzS
  split
  · rename_i xs hs
    obtain ⟨v, h1, p, vs, rfl, h3, h4, h5⟩ := R.sl i _ hs
    have hi : i < ρ.length := (List.getElem?_eq_some_iff.mp hs).1
    have hm : p ∈ G.fp i := by rw [h3]; simp
    obtain ⟨q1, q2, q3, q4⟩ := R.fr i p hm
    have sF : Same F (upd F p (.lst vs)) := same_new q1
    refine ⟨{ G with fp := fun j => if j = i then [] else G.fp j }, upd F p (.lst vs), ⟨rfl, rfl, rfl, rfl⟩, sF, ⟨⟨R.gr.ff.trans sF, fun a u e => ?_, fun a e => ?_, R.gr.kp, R.gr.th⟩, by rw [List.length_set]; exact R.len, R.t0, R.t1, ?_, fun j sv e => ?_, fun j k a ha hb => ?_, fun j a ha => ?_, fun e he => ?_⟩⟩
    · by_cases ha : a = p
      · subst ha; rw [upd_same] at e; cases e; exact h4
      · rw [upd_ne ha] at e; exact R.fh a u e
    · by_cases ha : a = p
      · subst ha; exact .inr q3
      · rw [upd_ne ha] at e; exact R.gr.nw a e
    · have t := R.tw
      revert t
      show TwOk K F H G.T W → TwOk K (upd F p (.lst vs)) H G.T W
      cases hT : G.T <;> cases W <;> intro t
      · trivial
      · exact t
      · exact t
      · obtain ⟨tv, t1, t2, t3⟩ := t
        exact ⟨tv, t1, by rw [upd_ne (fun z => q4 (by rw [hT, z]))]; exact t2, t3.mono sF⟩
    · by_cases hj : i = j
      · subst hj
        rw [List.getElem?_set_self hi] at e
        cases e
        exact ⟨.ref p, h1, .lst (.inl (.inl upd_same)) (h5.mono sF)⟩
      · rw [List.getElem?_set_ne hj] at e
        obtain ⟨v, e1, e2⟩ := R.sl j sv e
        refine ⟨v, e1, ?_⟩
        simp only [if_neg (Ne.symm hj)]
        exact e2.keep sF (fun _ _ _ => rfl) (fun _ _ _ => rfl)
    · simp only at ha hb
      by_cases hj : j = i
      · rw [if_pos hj] at ha; cases ha
      · by_cases hk : k = i
        · rw [if_pos hk] at hb; cases hb
        · rw [if_neg hj] at ha; rw [if_neg hk] at hb; exact R.dj j k a ha hb
    · simp only at ha
      by_cases hj : j = i
      · rw [if_pos hj] at ha; cases ha
      · rw [if_neg hj] at ha
        obtain ⟨e1, e2, e3, e4⟩ := R.fr j a ha
        exact ⟨by rw [upd_ne (fun z => hj (R.dj j i p (by rw [← z]; exact ha) hm))]; exact e1, e2, e3, e4⟩
    · obtain ⟨e1, e2, e3, e4⟩ := R.ex e he
      refine ⟨e1, by rw [upd_ne (fun z => e4 i (by rw [z]; exact hm))]; exact e2, e3, fun j hj => ?_⟩
      simp only at hj
      by_cases hk : j = i
      · rw [if_pos hk] at hj; cases hj
      · rw [if_neg hk] at hj; exact e4 j hj
  · exact ⟨G, F, .refl G, .refl F, R⟩
end
section
variable {X : Cx} {XE : Str → Hp → Prop} {st : Stmt} {sts : List Stmt} {fa fb : SS} {e a b : Expr} {fe fk : SE} {fl : SA} {bc : SB} {pos : Pos}
theorem s_nil : PSs X [] (tS X.K XE sPass) := pss_nil.weak fun D σ H ⟨G, ρ, W, F, R, p⟩ => p G σ F H (.refl _) (.refl _) R
theorem s_one (h : PS X st (tS X.K XE fa)) : PSs X [st] (tS X.K XE fa) := pss_one h
theorem s_cons (h1 : PS X st (tS X.K XE fa)) (h2 : PSs X sts (tS X.K XE fb)) : PSs X (st :: sts) (tS X.K XE (sSeq fa fb)) := by
  refine (pss_cons h1 h2).weak fun D σ H ⟨G, ρ, W, F, R, p⟩ => ⟨G, ρ, W, F, R, ?_⟩
  unfold sSeq at p
  cases hf : fa ρ W with
  | nx ρ1 W1 =>
    rw [hf] at p
    exact fun G1 σ1 F1 H1 b1 s1 R1 => ⟨G1, ρ1, W1, F1, R1, p.shift b1 s1⟩
  | rt r W1 => rw [hf] at p; exact p
  | exc c => rw [hf] at p; exact p
  | bad => rw [hf] at p; exact p
theorem s_pass : PS X (.Pass pos) (tS X.K XE sPass) := ps_pass.weak fun D σ H ⟨G, ρ, W, F, R, p⟩ => p G σ F H (.refl _) (.refl _) R
theorem s_never : PS X st (tS X.K XE sNever) := ps_never.weak fun D σ H ⟨G, ρ, W, F, R, p⟩ => p
theorem s_frz (i : Nat) (h : PS X st (tS X.K XE fa)) : PS X st (tS X.K XE (fun ρ W => fa (frzS i ρ) W)) := by
  refine h.weak fun D σ H ⟨G, ρ, W, F, R, p⟩ => ?_
  obtain ⟨G', F', b, s, R'⟩ := R.frz i
  exact ⟨G', frzS i ρ, W, F', R', p.shift b s⟩
theorem s_expr (he : PE X e (tE X.K XE fe)) (hs : swapsWith e none pos.line X.env = pure false := by rfl) : PS X (.Expr e pos) (tS X.K XE (sExpr fe)) :=
  (ps_expr he hs).weak fun D σ H ⟨G, ρ, W, F, R, p⟩ => ⟨G, ρ, W, F, R, p.of_rOut.mono fun d W1 q v F1 H1 s1 R1 hv => q G σ F1 H1 (.refl _) s1 R1⟩
theorem s_ret (he : PE X e (tE X.K XE fe)) : PS X (.Return (some e) pos) (tS X.K XE (sRet fe)) :=
  (ps_ret he).weak fun D σ H ⟨G, ρ, W, F, R, p⟩ => ⟨G, ρ, W, F, R, p.of_rOut.mono fun d W1 q v F1 H1 s1 R1 hv => q G ρ σ v F1 H1 (.refl _) s1 R1 hv⟩
theorem s_retL (he : PE X e (tL X.K XE fl)) : PS X (.Return (some e) pos) (tS X.K XE (sRetL fl)) :=
  (ps_ret he).weak fun D σ H ⟨G, ρ, W, F, R, p⟩ => ⟨G, ρ, W, F, R, p.of_rOut.mono fun ds W1 q np vs F1 H1 s1 R1 fr hp hF hv => q G ρ σ _ F1 H1 (.refl _) s1 R1 ⟨np, vs, rfl, fr.1, hp, hF, hv⟩⟩
theorem s_retO {i : Nat} (he : PE X e (tVar i)) : PS X (.Return (some e) pos) (tS X.K XE (sRetO i)) :=
  (ps_ret he).weak fun D σ H ⟨G, ρ, W, F, R, p⟩ => by
    unfold sRetO at p
    split at p
    · rename_i xs hs
      obtain ⟨v, h1, np, vs, h2, h3, h4, h5⟩ := R.sl i _ hs
      obtain ⟨q1, q2, q3, q4⟩ := R.fr i np (by rw [h3]; simp)
      exact ⟨v, h1, p G ρ σ v F H (.refl _) (.refl _) R ⟨np, vs, h2, q3, h4, q1, h5⟩⟩
    · exact p.elim
theorem s_asg {i : Nat} (h : PS X st (tAsg (tE X.K XE fe) (gName i))) : PS X st (tS X.K XE (sAsg i fe)) :=
  h.weak fun D σ H ⟨G, ρ, W, F, R, p⟩ => ⟨G, ρ, W, F, R, p.of_rOut.mono fun d W1 q v F1 H1 s1 R1 hv => by
    obtain ⟨hi, q⟩ := Po.of_ite q
    exact q G _ F1 H1 (.refl _) s1 (R1.setD hi hv)⟩
theorem s_asgG {is : List Nat} {g : SG} (h : PS X st (tAsg (tE X.K XE fe) (tG X.K is g))) : PS X st (tS X.K XE (sAsgG g fe)) :=
  h.weak fun D σ H ⟨G, ρ, W, F, R, p⟩ => ⟨G, ρ, W, F, R, p.of_rOut.mono fun d W1 q v F1 H1 s1 R1 hv => by
    split at q
    · rename_i ρ' hg
      exact ⟨G, ρ, W1, F1, d, ρ', R1, hv, hg, fun _ σ' _ _ R2 => q G σ' F1 H1 (.refl _) s1 R2⟩
    · exact q.elim⟩
theorem s_own {i : Nat} (h : PS X st (tAsg (tL X.K XE fl) (gName i))) : PS X st (tS X.K XE (sOwn i fl)) :=
  h.weak fun D σ H ⟨G, ρ, W, F, R, p⟩ => ⟨G, ρ, W, F, R, p.of_rOut.mono fun ds W1 q np vs F1 H1 s1 R1 fr hp hF hv => by
    obtain ⟨hi, q⟩ := Po.of_ite q
    exact q _ _ F1 H1 (G.own_same i np) s1 (R1.takeOwn hi fr hp hF hv)⟩
theorem s_town {i : Nat} (h : PS X st (tAsg (tL X.K XE fl) (gName i))) : PS X st (tS X.K XE (sTown i fl)) :=
  h.weak fun D σ H ⟨G, ρ, W, F, R, p⟩ => ⟨G, ρ, W, F, R, p.of_rOut.mono fun ds W1 q np vs F1 H1 s1 R1 fr hp hF hv => by
    obtain ⟨⟨hi, hW⟩, q'⟩ := Po.of_ite q
    clear q
    have q := q'
    clear q'
    subst hW
    obtain ⟨f1, f2, f3, f4⟩ := fr
    have hT : G.T = none := by
      have t := R1.tw
      cases hT : G.T with
      | none => rfl
      | some t' => rw [hT] at t; exact t.elim
    have hT0 : G.T0 = none := by
      cases h0 : G.T0 with
      | none => rfl
      | some t => rw [R1.t0 t h0] at hT; cases hT
    refine q { G with T := some np } _ F1 H1 ⟨rfl, rfl, rfl, rfl⟩ s1 ⟨R1.gr, by rw [List.length_set, List.length_set]; exact R1.len, fun t ht => (by rw [hT0] at ht; cases ht), fun t ht => (by cases ht; exact .inr f1), ⟨vs, hp, hF, hv⟩, fun j sv e => ?_, R1.dj, fun j a ha => ?_, fun e he => ?_⟩
    · by_cases hj : i = j
      · subst hj
        rw [List.getElem?_set_self hi] at e
        cases e
        exact ⟨.ref np, List.getElem?_set_self (by rw [← R1.len]; exact hi), np, rfl, rfl⟩
      · rw [List.getElem?_set_ne hj] at e ⊢
        obtain ⟨v, h1, h2⟩ := R1.sl j sv e
        refine ⟨v, h1, ?_⟩
        cases sv with
        | town => obtain ⟨t, h3, _⟩ := h2; rw [hT] at h3; cases h3
        | _ => exact h2
    · obtain ⟨e1, e2, e3, e4⟩ := R1.fr j a ha
      exact ⟨e1, e2, e3, fun z => f2 j (by cases z; exact ha)⟩
    · obtain ⟨e1, e2, e3, e4⟩ := R1.ex e he
      exact ⟨e1, e2, fun z => f4 e he (by cases z; rfl), e4⟩⟩
theorem s_if {c : Expr} {as bs : List Stmt} (hc : PT X c (tT X.K XE bc)) (ha : PSs X as (tS X.K XE fa)) (hb : PSs X bs (tS X.K XE fb)) : PS X (.If c as bs pos) (tS X.K XE (sIf bc fa fb)) :=
  (ps_if hc ha hb).weak fun D σ H ⟨G, ρ, W, F, R, p⟩ => ⟨G, ρ, W, F, R, p.of_rOut.mono fun k W1 q F1 H1 s1 R1 => by
    cases k with
    | true => exact ⟨G, ρ, W1, F1, R1, Po.shift q (.refl _) s1⟩
    | false => exact ⟨G, ρ, W1, F1, R1, Po.shift q (.refl _) s1⟩⟩
theorem s_for {tg iter : Expr} {body : List Stmt} {is : List Nat} {g : SG} (hp : PassesOwn (model X.prog X.w) X.A X.env X.xe) (hc : X.calm = true) (hi : PI X tg iter (tI X.K XE fl)) (hg : PG X tg (tG X.K is g)) (hb : PSs X body (tS X.K XE fb))
    (hs : ∀ x, foldedSetIterable iter X.env x = pure x := by intro _; rfl) : PS X (.For tg iter body [] pos) (tS X.K XE (sFor fl g fb)) := by
  refine (ps_for hp hc hi hg hb hs).weak fun D σ H ⟨G, ρ, W, F, R, p⟩ => ⟨G, ρ, W, F, R, p.of_rOut.mono fun ds W1 q J F1 H1 s1 R1 wk => ?_⟩
  refine for_it wk (fun i σ' H' => ∃ G' ρ' W' F', SameB G G' ∧ Same F1 F' ∧ Rel X.K G' ρ' W' σ' F' H' ∧ Po X.K XE G' F' (fL g fb (ds.drop i) ρ' W') D) ⟨G, ρ, W1, F1, .refl _, .refl _, R1, Po.shift (by rw [List.drop_zero]; exact q) (.refl _) s1⟩ (fun i σ' H' _ ⟨G', ρ', W', F', _, si, Ri, _⟩ => ⟨F', si, Ri.fh⟩) ?_ ?_
  · rintro i x σ' H' H3 hi ⟨G', ρ', W', F', bi, si, Ri, po⟩ hy
    obtain ⟨F3, d, hd, gr, hx⟩ := hy F' si Ri.fh
    have hdrop : ds.drop i = d :: ds.drop (i + 1) := by
      obtain ⟨h1, h2⟩ := List.getElem?_eq_some_iff.mp hd
      rw [List.drop_eq_getElem_cons h1, h2]
    rw [hdrop] at po
    unfold fL at po
    cases hgd : g d ρ' with
    | none => simp only [hgd] at po; exact po.elim
    | some ρ1 =>
      simp only [hgd] at po
      refine ⟨G', ρ', W', F3, d, ρ1, Ri.grow gr, hx, hgd, fun _ σ2 _ _ R4 => ⟨G', ρ1, W', F3, R4, ?_⟩⟩
      cases hf : fb ρ1 W' with
      | nx ρ2 W2 =>
        simp only [hf] at po
        exact fun G2 σ3 F4 H4 b4 s4 R5 => ⟨G2, ρ2, W2, F4, bi.trans b4, (si.trans gr.ff).trans s4, R5, po.shift b4 (gr.ff.trans s4)⟩
      | rt r W2 =>
        simp only [hf] at po
        exact fun G2 ρ2 σ3 v F4 H4 b4 s4 R5 hv => po G2 ρ2 σ3 v F4 H4 b4 (gr.ff.trans s4) R5 hv
      | exc c => simp only [hf] at po; exact po
      | bad => simp only [hf] at po; exact po.elim
  · rintro σ' H' ⟨G', ρ', W', F', bi, si, Ri, po⟩
    rw [List.drop_length] at po
    exact po G' σ' F' H' (.refl _) (.refl _) Ri
theorem s_while {c : Expr} {body : List Stmt} {fuel : Sl → Nat} (hp : PassesOwn (model X.prog X.w) X.A X.env X.xe) (hc : PT X c (tT X.K XE bc)) (hb : PSs X body (tS X.K XE fb)) : PS X (.While c body [] pos) (tS X.K XE (sWhile fuel bc fb)) := by
  refine (ps_while hp hc hb).weak fun D σ H ⟨G, ρ, W, F, R, p⟩ => ⟨fun m σ' H' => ∃ G' ρ' W' F', Rel X.K G' ρ' W' σ' F' H' ∧ Po X.K XE G' F' (wL bc fb m ρ' W') D, ⟨fuel ρ, G, ρ, W, F, R, p⟩, ?_⟩
  rintro m σ' H' ⟨G', ρ', W', F', Ri, po⟩
  cases m with
  | zero => exact po.elim
  | succ m =>
    unfold wL at po
    refine ⟨G', ρ', W', F', Ri, po.of_rOut.mono fun k W1 q F1 H1 s1 R1 => ?_⟩
    cases k with
    | true =>
      simp only [if_true] at q
      refine ⟨fun σ2 H2 => ∃ G2 ρ2 W2 F2, Rel X.K G2 ρ2 W2 σ2 F2 H2 ∧ Po X.K XE G2 F2 (wL bc fb m ρ2 W2) D, fun σ2 H2 z => ⟨m, Nat.lt_succ_self m, z⟩, G', ρ', W1, F1, R1, ?_⟩
      cases hf : fb ρ' W1 with
      | nx ρ2 W2 =>
        simp only [hf] at q
        exact fun G2 σ3 F4 H4 b4 s4 R5 => ⟨G2, ρ2, W2, F4, R5, q.shift b4 (s1.trans s4)⟩
      | rt r W2 =>
        simp only [hf] at q
        exact fun G2 ρ2 σ3 v F4 H4 b4 s4 R5 hv => q G2 ρ2 σ3 v F4 H4 b4 (s1.trans s4) R5 hv
      | exc c => simp only [hf] at q; exact q
      | bad => simp only [hf] at q; exact q.elim
    | false =>
      simp only [Bool.false_eq_true, if_false] at q ⊢
      exact q G' σ' F1 H1 (.refl _) s1 R1
end
end Sx

namespace Sx
open PySem PySem.Spec PyProof.Rows L2
theorem setD_all {K : PySem.W.Frag} {F : Hp} {vs : List V} {xs ys : List Dt} {v : V} {k d : Dt} (h : setD xs k d = some ys) (ha : DqAll K F vs xs) (hv : Dq K F v d) : ∃ (n : Int) (j : Nat), k = .int n ∧ ixN vs.length n = some j ∧ DqAll K F (vs.set j v) ys := by
  cases k <;> simp only [setD] at h <;> try (cases h; done)
  rename_i n
  cases hj : ixN xs.length n with
  | none => rw [hj] at h; cases h
  | some j =>
    rw [hj] at h
    cases h
    exact ⟨n, j, rfl, by rw [ha.length]; exact hj, ha.set j hv⟩
section
variable {X : Cx} {XE : Str → Hp → Prop} {st : Stmt} {e a b : Expr} {fe fk : SE} {fl : SA} {pos : Pos} {i : Nat}
/-- x.append(e) -/
theorem s_app (h : PS X st (tDrop (tBM X.K "list" rAppend (tVar i) (tCons (tE X.K XE fe) tNil)))) : PS X st (tS X.K XE (sApp i fe)) := by
  refine h.weak fun D σ H ⟨G, ρ, W, F, R, p⟩ => ?_
  unfold sApp at p
  split at p
  · rename_i xs hs
    obtain ⟨v, h1, np, vs, rfl, h3, h4, h5⟩ := R.sl i _ hs
    refine ⟨_, h1, .inl ⟨rfl, _, SqL.of h4⟩, G, ρ, W, F, R, p.of_rOut.mono fun d W1 q v F1 H1 s1 R1 hv => ?_⟩
    obtain ⟨hl, q⟩ := Po.of_ite q
    obtain ⟨v', h1', np', vs', e1, h3', h4', h5'⟩ := R1.sl i _ hs
    rw [h1] at h1'
    cases h1'
    cases e1
    refine ⟨np, vs', v, rfl, rfl, h4', Nat.lt_of_lt_of_le (by rw [h5'.length]; exact hl) (sz5 (Nat.le_refl _)), ?_⟩
    exact q G σ F1 _ (.refl _) s1 (R1.mutOwn hs h1 (h5'.append (.one hv)))
  · exact p.elim
/-- x.extend([..]) -/
theorem s_ext (h : PS X st (tDrop (tBM X.K "list" rExtend (tVar i) (tCons (tL X.K XE fl) tNil)))) : PS X st (tS X.K XE (sExt i fl)) := by
  refine h.weak fun D σ H ⟨G, ρ, W, F, R, p⟩ => ?_
  unfold sExt at p
  split at p
  · rename_i xs hs
    obtain ⟨v, h1, np, vs, rfl, h3, h4, h5⟩ := R.sl i _ hs
    refine ⟨_, h1, .inl ⟨rfl, _, SqL.of h4⟩, G, ρ, W, F, R, p.of_rOut.mono fun ds W1 q np2 us F1 H1 s1 R1 fr hp hF hv => ?_⟩
    obtain ⟨hl, q⟩ := Po.of_ite q
    obtain ⟨v', h1', np', vs', e1, h3', h4', h5'⟩ := R1.sl i _ hs
    rw [h1] at h1'
    cases h1'
    cases e1
    refine ⟨np, np2, vs', us, rfl, rfl, h4', hp, sz5 (by rw [h5'.length, hv.length]; exact hl), ?_⟩
    exact q G σ F1 _ (.refl _) s1 (R1.mutOwn hs h1 (h5'.append hv))
  · exact p.elim
/-- x[k] = e -/
theorem s_set (h : PS X st (tAsg (tE X.K XE fe) (gSub (tVar i) (tE X.K XE fk) rSetL))) : PS X st (tS X.K XE (sSet i fk fe)) := by
  refine h.weak fun D σ H ⟨G, ρ, W, F, R, p⟩ => ?_
  unfold sSet at p
  split at p
  · rename_i xs hs
    refine ⟨G, ρ, W, F, R, p.of_rOut.mono fun d W1 q v F1 H1 s1 R1 hv => ?_⟩
    obtain ⟨v', h1, np, vs, rfl, h3, h4, h5⟩ := R1.sl i _ hs
    refine ⟨_, h1, G, ρ, W1, F1, R1, q.of_rOut.mono fun kd W2 q2 kv F2 H2 s2 R2 hk => ?_⟩
    cases hsd : setD xs kd d with
    | none => rw [hsd] at q2; exact q2.elim
    | some ys =>
      rw [hsd] at q2
      obtain ⟨v2, h1', np', vs', e1, h3', h4', h5'⟩ := R2.sl i _ hs
      rw [h1] at h1'
      cases h1'
      cases e1
      obtain ⟨n, j, rfl, hj, hall⟩ := setD_all hsd h5' (hv.mono s2)
      cases hk
      exact ⟨np, vs', n, j, rfl, rfl, h4', hj, q2 G σ F2 _ (.refl _) (s1.trans s2) (R2.mutOwn hs h1 hall)⟩
  · exact p.elim
theorem s_setT (h : PS X st (tAsg (tE X.K XE fe) (gSub (tVar i) (tE X.K XE fk) rSetL))) : PS X st (tS X.K XE (sSetT i fk fe)) := by
  refine h.weak fun D σ H ⟨G, ρ, W, F, R, p⟩ => ?_
  unfold sSetT at p
  split at p
  · rename_i hs
    refine ⟨G, ρ, W, F, R, p.of_rOut.mono fun d W1 q v F1 H1 s1 R1 hv => ?_⟩
    obtain ⟨v', h1, t, hT, rfl⟩ := R1.sl i _ hs
    refine ⟨_, h1, G, ρ, W1, F1, R1, q.of_rOut.mono fun kd W2 q2 kv F2 H2 s2 R2 hk => ?_⟩
    split at q2
    · rename_i ws
      cases hsd : setD ws kd d with
      | none => rw [hsd] at q2; exact q2.elim
      | some ys =>
        rw [hsd] at q2
        have tw := R2.tw
        rw [hT] at tw
        obtain ⟨tv, t1, t2, t3⟩ := tw
        obtain ⟨n, j, rfl, hj, hall⟩ := setD_all hsd t3 (hv.mono s2)
        cases hk
        have g : Gr (fun a => a = t) F2 H2 F2 (upd H2 t (.lst (tv.set j v))) := ⟨.refl _, same_mut R2.fh t2, fun _ e => .inl e, fun a o e n => by rw [upd_ne n]; exact e, fun a e => by
          by_cases ha : a = t
          · subst ha; rw [upd_same]; exact fun z => nomatch z
          · rw [upd_ne ha]; exact e⟩
        exact ⟨t, tv, n, j, rfl, rfl, t1, hj, q2 G σ F2 _ (.refl _) (s1.trans s2) (R2.newTown (W' := some ys) hT g upd_same t2 hall)⟩
    · exact q2.elim
  · exact p.elim
theorem d_ixT {x : Str} {p2 : Pos} (hx : PE X (.Name x p2) (tVar i)) (hb : PE X b (tE X.K XE fk)) (hs : PlainIx b) : PE X (.Subscript (.Name x p2) b pos) (tE X.K XE (eIxT i fk)) := by
  refine (pe_ix ix_list hx hb hs).weak fun σ H Q ⟨G, ρ, W, F, R, p⟩ => ?_
  unfold eIxT at p
  split at p
  · rename_i hs
    obtain ⟨v', h1, t, hT, rfl⟩ := R.sl i _ hs
    refine ⟨_, h1, G, ρ, W, F, R, p.of_bind.mono fun kd W1 q kv F1 H1 s1 R1 hk => ?_⟩
    simp only at q
    split at q
    · rename_i ws
      obtain ⟨z, hz, q2⟩ := Pg.of_ofO q
      have tw := R1.tw
      rw [hT] at tw
      obtain ⟨tv, t1, t2, t3⟩ := tw
      cases kd <;> simp only [ixD] at hz <;> try (cases hz; done)
      cases hk
      obtain ⟨w, e1, e2⟩ := atI_all t3 hz
      exact ⟨t, tv, _, w, rfl, rfl, SqL.of t1, e1, q2 w F1 H1 s1 R1 e2⟩
    · exact q.elim
  · exact p.elim
/-- a comprehension's list, told to all (a statement x = [..] of its own) -/
theorem frz_of {ga : SA} {σ : L2.St} {H : Hp} {Q : VK} (h : tE X.K XE (eFrz ga) σ H Q) : tL X.K XE ga σ H Q := by
  obtain ⟨G, ρ, W, F, R, p⟩ := h
  refine ⟨G, ρ, W, F, R, p.of_bind.mono fun ds W1 q np vs F1 H1 s1 R1 fr hp hF hv => ?_⟩
  have sF : Same F1 (upd F1 np (.lst vs)) := same_new hF
  exact q _ (upd F1 np (.lst vs)) H1 (s1.trans sF) (R1.freeze hp hF fr) (.lst (.inl (.inl upd_same)) (hv.mono sF))
theorem as_frz {ga : SA} (h : PS X st (tAsg (tL X.K XE ga) (gName i))) : PS X st (tAsg (tE X.K XE (eFrz ga)) (gName i)) := h.weak fun _ _ _ => frz_of
theorem as_comp {it : SA} {g : SG} {c : SB} {e : SE} {is vs : List Nat} (hsub : ∀ j ∈ is, j ∈ vs) (h : PS X st (tAsg (tLc (tI X.K XE it) (tG X.K is g) (tT X.K X0 c) (tE X.K X0 e) vs) (gName i))) : PS X st (tAsg (tL X.K XE (lComp it g c e vs)) (gName i)) := h.weak fun _ _ _ => comp_of hsub
end

/-! ### several names at once -/
inductive Mv (K : PySem.W.Frag) (H0 F : Hp) : List V → List SV → List (Addr × HO) → Prop
  | nil : Mv K H0 F [] [] []
  | d {v : V} {x : Dt} {vs : List V} {svs : List SV} {ps : List (Addr × HO)} : Dq K F v x → Mv K H0 F vs svs ps → Mv K H0 F (v :: vs) (.d x :: svs) ps
  | own {p : Addr} {us : List V} {xs : List Dt} {vs : List V} {svs : List SV} {ps : List (Addr × HO)} : H0 p = none → DqAll K F us xs → (∀ e ∈ ps, e.1 ≠ p) → Mv K H0 F vs svs ps → Mv K H0 F (.ref p :: vs) (.own xs :: svs) (ps ++ [(p, .lst us)])
  | dk {p : Addr} {us : List (Key × V)} {kvs : List (Int × Dt)} {vs : List V} {svs : List SV} {ps : List (Addr × HO)} : H0 p = none → KvOk K F us kvs → (∀ e ∈ ps, e.1 ≠ p) → Mv K H0 F vs svs ps → Mv K H0 F (.ref p :: vs) (.dk kvs :: svs) (ps ++ [(p, .dK us)])
abbrev SM := Sl → Tw → Res (List SV × Tw)
def mNil : SM := fun _ W => .ok ([], W)
def mD (e : SE) (m : SM) : SM := fun ρ W => (e ρ W).bind fun p => (m ρ p.2).bind fun q => .ok (.d p.1 :: q.1, q.2)
def mL (f : SA) (m : SM) : SM := fun ρ W => (f ρ W).bind fun p => (m ρ p.2).bind fun q => .ok (.own p.1 :: q.1, q.2)
def tM (K : PySem.W.Frag) (XE : Str → Hp → Prop) (f : SM) : TA := fun σ H Q => ∃ G ρ W F, Rel K G ρ W σ F H ∧
  Pg XE G (f ρ W) fun svs W' => ∀ vs ps F' H', Same F F' → Rel K { G with ext := ps ++ G.ext } ρ W' σ F' H' → Mv K G.H0 F' vs svs ps → (∀ e ∈ ps, ∀ e' ∈ G.ext, e.1 ≠ e'.1) → Q vs H'
def setM : List Nat → List SV → Sl → Option Sl
  | [], [], ρ => some ρ
  | i :: is, sv :: svs, ρ => if i < ρ.length then setM is svs (ρ.set i (some sv)) else none
  | _, _, _ => none
def setV : List Nat → List V → L2.St → L2.St
  | i :: is, v :: vs, σ => setV is vs (σ.set i (some v))
  | _, _, σ => σ
def sPar (is : List Nat) (m : SM) : SS := fun ρ W => rOut (m ρ W) fun svs W1 => match setM is svs ρ with
  | some ρ' => .nx ρ' W1
  | none => .bad
theorem Pg.ext {α : Type} {XE : Str → Hp → Prop} {G : Gh} {E : List (Addr × HO)} {r : Res (α × Tw)} {P : α → Tw → Prop} (h : Pg XE G r P) : Pg XE { G with ext := E } r P := by
  cases r <;> exact h
theorem Rel.extSub {K : PySem.W.Frag} {G : Gh} {ρ : Sl} {W : Tw} {σ : L2.St} {F H : Hp} {E E' : List (Addr × HO)} (R : Rel K { G with ext := E } ρ W σ F H) (h : ∀ e ∈ E', e ∈ E) : Rel K { G with ext := E' } ρ W σ F H :=
  ⟨R.gr, R.len, R.t0, R.t1, R.tw, R.sl, R.dj, R.fr, fun e he => R.ex e (h e he)⟩
theorem Rel.setM {K : PySem.W.Frag} {F H : Hp} {W : Tw} {H0 : Hp} {E : List (Addr × HO)} : ∀ {vs : List V} {svs : List SV} {ps : List (Addr × HO)} {is : List Nat} {ρ ρ' : Sl} {σ : L2.St} {G : Gh}, Mv K H0 F vs svs ps → H0 = G.H0 → G.ext = ps ++ E → (∀ e ∈ ps, ∀ e' ∈ E, e.1 ≠ e'.1) → Rel K G ρ W σ F H →
    Sx.setM is svs ρ = some ρ' → ∃ G', SameB { G with ext := E } G' ∧ Rel K G' ρ' W (setV is vs σ) F H
  | _, _, _, [], ρ, ρ', σ, G, .nil, h0, he, hd, R, hs => by
    cases hs
    exact ⟨{ G with ext := E }, .refl _, ⟨R.gr, R.len, R.t0, R.t1, R.tw, R.sl, R.dj, R.fr, fun e h => R.ex e (by rw [he]; exact h)⟩⟩
  | _, _, _, i :: is, ρ, ρ', σ, G, .nil, h0, he, hd, R, hs => by cases hs
  | _, _, _, [], ρ, ρ', σ, G, .d _ _, h0, he, hd, R, hs => by cases hs
  | _, _, _, [], ρ, ρ', σ, G, .own _ _ _ _, h0, he, hd, R, hs => by cases hs
  | _, _, _, [], ρ, ρ', σ, G, .dk _ _ _ _, h0, he, hd, R, hs => by cases hs
  | _, _, _, i :: is, ρ, ρ', σ, G, .d hv m, h0, he, hd, R, hs => by
    unfold Sx.setM at hs
    split at hs
    · rename_i hi
      have := Rel.setM (is := is) m h0 he hd (R.setD hi hv) hs
      exact this
    · cases hs
  | _, _, _, i :: is, ρ, ρ', σ, G, .own (p := p) (us := us) (xs := xs) (ps := ps) hp hx hn m, h0, he, hd, R, hs => by
    unfold Sx.setM at hs
    split at hs
    · rename_i hi
      subst h0
      obtain ⟨e1, e2, e3, e4⟩ := R.ex (p, .lst us) (by rw [he]; simp)
      have R1 : Rel K { G with ext := ps ++ E } ρ W σ F H := ⟨R.gr, R.len, R.t0, R.t1, R.tw, R.sl, R.dj, R.fr, fun e h => R.ex e (by
        rw [he]
        rcases List.mem_append.mp h with z | z
        · exact List.mem_append_left _ (List.mem_append_left _ z)
        · exact List.mem_append_right _ z)⟩
      have fr : Fresh { G with ext := ps ++ E } p := ⟨hp, e4, e3, fun e h => by
        rcases List.mem_append.mp h with z | z
        · exact hn e z
        · exact fun q => hd (p, .lst us) (by simp) e z q.symm⟩
      have R2 := R1.takeOwn hi fr e1 e2 hx
      obtain ⟨G', b, R3⟩ := Rel.setM (G := ({ G with ext := ps ++ E } : Gh).own i p) (E := E) m rfl rfl (fun e h e' h' => hd e (List.mem_append_left _ h) e' h') R2 hs
      exact ⟨G', ⟨b.T0, b.F0, b.H0, b.ext⟩, R3⟩
    · cases hs
  | _, _, _, i :: is, ρ, ρ', σ, G, .dk (p := p) (us := us) (kvs := xs) (ps := ps) hp hx hn m, h0, he, hd, R, hs => by
    unfold Sx.setM at hs
    split at hs
    · rename_i hi
      subst h0
      obtain ⟨e1, e2, e3, e4⟩ := R.ex (p, .dK us) (by rw [he]; simp)
      have R1 : Rel K { G with ext := ps ++ E } ρ W σ F H := ⟨R.gr, R.len, R.t0, R.t1, R.tw, R.sl, R.dj, R.fr, fun e h => R.ex e (by
        rw [he]
        rcases List.mem_append.mp h with z | z
        · exact List.mem_append_left _ (List.mem_append_left _ z)
        · exact List.mem_append_right _ z)⟩
      have fr : Fresh { G with ext := ps ++ E } p := ⟨hp, e4, e3, fun e h => by
        rcases List.mem_append.mp h with z | z
        · exact hn e z
        · exact fun q => hd (p, .dK us) (by simp) e z q.symm⟩
      have R2 := R1.takeSv hi fr e1 e2 (sv := .dk xs) ⟨p, us, rfl, rfl, e1, hx⟩
      obtain ⟨G', b, R3⟩ := Rel.setM (G := ({ G with ext := ps ++ E } : Gh).own i p) (E := E) m rfl rfl (fun e h e' h' => hd e (List.mem_append_left _ h) e' h') R2 hs
      exact ⟨G', ⟨b.T0, b.F0, b.H0, b.ext⟩, R3⟩
    · cases hs
section
variable {X : Cx} {XE : Str → Hp → Prop} {st : Stmt} {e : Expr} {es : List Expr} {fe : SE} {fl : SA} {m : SM} {pos : Pos}
theorem m_nil : PA X [] (tM X.K XE mNil) := pa_nil.weak fun σ H Q ⟨G, ρ, W, F, R, p⟩ => p [] [] F H (.refl _) R .nil (fun _ h => by cases h)
theorem m_d (ha : PE X e (tE X.K XE fe)) (hr : PA X es (tM X.K XE m)) (hs : starEach (e :: es) X.env = (false, eval e X.env) :: starEach es X.env := by rfl) : PA X (e :: es) (tM X.K XE (mD fe m)) := by
  refine (pa_cons ha hr hs).weak fun σ H Q ⟨G, ρ, W, F, R, p⟩ => ?_
  exact ⟨G, ρ, W, F, R, p.of_bind.mono fun d W1 q v F1 H1 s1 R1 hv => ⟨G, ρ, W1, F1, R1, q.of_bind.mono fun svs W2 q2 vs ps F2 H2 s2 R2 hm hd => q2 _ ps F2 H2 (s1.trans s2) R2 (.d (hv.mono s2) hm) hd⟩⟩
theorem m_l (ha : PE X e (tL X.K XE fl)) (hr : PA X es (tM X.K XE m)) (hs : starEach (e :: es) X.env = (false, eval e X.env) :: starEach es X.env := by rfl) : PA X (e :: es) (tM X.K XE (mL fl m)) := by
  refine (pa_cons ha hr hs).weak fun σ H Q ⟨G, ρ, W, F, R, p⟩ => ?_
  refine ⟨G, ρ, W, F, R, p.of_bind.mono fun ds W1 q np us F1 H1 s1 R1 fr hp hF hv => ⟨{ G with ext := (np, .lst us) :: G.ext }, ρ, W1, F1, R1.aside hp hF fr, Pg.mono (Pg.ext q.of_bind) fun svs W2 q2 vs ps F2 H2 s2 R2 hm hd => ?_⟩⟩
  refine q2 _ (ps ++ [(np, .lst us)]) F2 H2 (s1.trans s2) (by rw [List.append_assoc]; exact R2) (.own fr.1 (hv.mono s2) (fun e he => hd e he _ (List.mem_cons_self ..)) hm) fun e he e' he' => ?_
  rcases List.mem_append.mp he with z | z
  · exact hd e z e' (List.mem_cons_of_mem _ he')
  · rw [List.mem_singleton.mp z]
    exact Ne.symm (fr.2.2.2 e' he')
theorem par_of {D : Ends} {σ : L2.St} {H : Hp} {is : List Nat} (h : tS X.K XE (sPar is m) D σ H) : tM X.K XE m σ H fun vs H1 => D.nx (setV is vs σ) H1 := by
  obtain ⟨G, ρ, W, F, R, p⟩ := h
  refine ⟨G, ρ, W, F, R, p.of_rOut.mono fun svs W1 q vs ps F1 H1 s1 R1 hm hd => ?_⟩
  split at q
  · rename_i ρ' hs
    obtain ⟨G', b, R2⟩ := Rel.setM (G := { G with ext := ps ++ G.ext }) (E := G.ext) hm rfl rfl hd R1 hs
    exact q G' _ F1 H1 ⟨b.T0, b.F0, b.H0, b.ext⟩ s1 R2
  · exact q.elim
theorem par_len {σ : L2.St} {H : Hp} {Q : List V → Hp → Prop} {is : List Nat} {D : Ends} (h : tS X.K XE (sPar is m) D σ H) (hq : ∀ vs H1, vs.length = is.length → D.nx (setV is vs σ) H1 → Q vs H1) : tM X.K XE m σ H Q := by
  obtain ⟨G, ρ, W, F, R, p⟩ := h
  refine ⟨G, ρ, W, F, R, p.of_rOut.mono fun svs W1 q vs ps F1 H1 s1 R1 hm hd => ?_⟩
  split at q
  · rename_i ρ' hs
    obtain ⟨G', b, R2⟩ := Rel.setM (G := { G with ext := ps ++ G.ext }) (E := G.ext) hm rfl rfl hd R1 hs
    refine hq vs H1 ?_ (q G' _ F1 H1 ⟨b.T0, b.F0, b.H0, b.ext⟩ s1 R2)
    have l1 : ∀ {is : List Nat} {svs : List SV} {ρ ρ' : Sl}, setM is svs ρ = some ρ' → svs.length = is.length := by
      intro is
      induction is with
      | nil => intro svs ρ ρ' h; cases svs with
        | nil => rfl
        | cons _ _ => cases h
      | cons i is ih => intro svs ρ ρ' h; cases svs with
        | nil => cases h
        | cons s svs =>
          unfold setM at h
          split at h
          · rw [List.length_cons, List.length_cons, ih h]
          · cases h
    have l2 : ∀ {vs : List V} {svs : List SV} {ps : List (Addr × HO)}, Mv X.K G.H0 F1 vs svs ps → vs.length = svs.length := by
      intro vs svs ps h
      induction h with
      | nil => rfl
      | d _ _ ih => rw [List.length_cons, List.length_cons, ih]
      | own _ _ _ _ ih => rw [List.length_cons, List.length_cons, ih]
      | dk _ _ _ _ ih => rw [List.length_cons, List.length_cons, ih]
    rw [l2 hm, l1 hs]
  · exact q.elim
theorem s_par2 {i j : Nat} (h : PS X st (tPar i j (tM X.K XE m))) : PS X st (tS X.K XE (sPar [i, j] m)) :=
  h.weak fun D σ H p => par_len p fun vs H1 hl q => by
    rcases vs with _ | ⟨v, _ | ⟨w, _ | ⟨x, vs⟩⟩⟩ <;> simp at hl
    exact ⟨v, w, rfl, q⟩
theorem s_par3 {i j l : Nat} (h : PS X st (tPar3 i j l (tM X.K XE m))) : PS X st (tS X.K XE (sPar [i, j, l] m)) :=
  h.weak fun D σ H p => par_len p fun vs H1 hl q => by
    rcases vs with _ | ⟨v, _ | ⟨w, _ | ⟨x, _ | ⟨y, vs⟩⟩⟩⟩ <;> simp at hl
    exact ⟨v, w, x, rfl, q⟩
def gNames : List Nat → TGs
  | [] => gNil
  | i :: is => gCons (gName i) (gNames is)
theorem gNames_of : ∀ {is : List Nat} {vs : List V} {σ : L2.St} {H : Hp} {Q : L2.St → Hp → Prop}, vs.length = is.length → Q (setV is vs σ) H → gNames is vs σ H Q
  | [], [], _, _, _, _, q => ⟨rfl, q⟩
  | i :: is, v :: vs, σ, H, Q, hl, q => ⟨v, vs, rfl, gNames_of (is := is) (by simpa using hl) q⟩
  | [], _ :: _, _, _, _, hl, _ => by simp at hl
  | _ :: _, [], _, _, _, hl, _ => by simp at hl
theorem upd_nx {G : Gh} {ρ : Sl} : True := trivial
/-- more names, or names that inner blocks read: by the tuple -/
theorem s_parN {is : List Nat} {n : Nat} (h : PS X st (tAsg (tTup (tM X.K XE m)) (gTup X.K n (gNames is)))) (hn : is.length = n) (hle : n ≤ 1000) : PS X st (tS X.K XE (sPar is m)) := by
  refine h.weak fun D σ H ⟨G, ρ, W, F, R, p⟩ => ?_
  refine ⟨G, ρ, W, F, R, p.of_rOut.mono fun svs W1 q vs ps F1 H1 s1 R1 hm hd => ?_⟩
  split at q
  · rename_i ρ' hs
    have l1 : ∀ {is : List Nat} {svs : List SV} {ρ ρ' : Sl}, setM is svs ρ = some ρ' → svs.length = is.length := by
      intro is
      induction is with
      | nil => intro svs ρ ρ' h; cases svs with
        | nil => rfl
        | cons _ _ => cases h
      | cons i is ih => intro svs ρ ρ' h; cases svs with
        | nil => cases h
        | cons s svs =>
          unfold setM at h
          split at h
          · rw [List.length_cons, List.length_cons, ih h]
          · cases h
    have l2 : ∀ {vs : List V} {svs : List SV} {ps : List (Addr × HO)}, Mv X.K G.H0 F1 vs svs ps → vs.length = svs.length := by
      intro vs svs ps h
      induction h with
      | nil => rfl
      | d _ _ ih => rw [List.length_cons, List.length_cons, ih]
      | own _ _ _ _ ih => rw [List.length_cons, List.length_cons, ih]
      | dk _ _ _ _ ih => rw [List.length_cons, List.length_cons, ih]
    have hl : vs.length = is.length := by rw [l2 hm, l1 hs]
    refine ⟨sz6 (by omega), fun np hnp => ?_⟩
    have g : Gr0 F1 H1 F1 (upd H1 np (.tup vs)) := .newH R1.fh hnp
    obtain ⟨G', b, R2⟩ := Rel.setM (G := { G with ext := ps ++ G.ext }) (E := G.ext) hm rfl rfl hd (R1.grow g) hs
    exact ⟨np, vs, rfl, .inl (.inl upd_same), by omega, gNames_of hl (q G' _ F1 _ ⟨b.T0, b.F0, b.H0, b.ext⟩ s1 R2)⟩
  · exact q.elim
end

/-! ### defs -/
def start0 (m : Nat) (ds : List Dt) : Sl := ds.map (fun x => some (.d x)) ++ List.replicate (m - ds.length) none
def startT (m : Nat) (ds : List Dt) : Sl := match ds with
  | d :: ds => some (.d d) :: some .town :: (ds.map (fun x => some (.d x)) ++ List.replicate (m - (ds.length + 2)) none)
  | [] => []
def runP (m : Nat) (B : SS) (ds : List Dt) : Res Dt := match B (start0 m ds) none with
  | .rt (.d x) _ => .ok x
  | .nx _ _ => .ok .none
  | .exc c => .exc c
  | _ => .bad
def runL (m : Nat) (B : SS) (ds : List Dt) : Res (List Dt) := match B (start0 m ds) none with
  | .rt (.own x) _ => .ok x
  | .exc c => .exc c
  | _ => .bad
def runT (m : Nat) (B : SS) (ds : List Dt) (ws : List Dt) : Res (Dt × List Dt) := match B (startT m ds) (some ws) with
  | .rt (.d x) (some ws') => .ok (x, ws')
  | .nx _ (some ws') => .ok (.none, ws')
  | .exc c => .exc c
  | _ => .bad
theorem dq_slots {K : PySem.W.Frag} {F H : Hp} {T : Option Addr} {fp : Nat → List Addr} {k : Nat} : ∀ {vs : List V} {ds : List Dt} {i : Nat} {sv : SV}, DqAll K F vs ds → (ds.map (fun x => some (SV.d x)) ++ List.replicate k none)[i]? = some (some sv) →
    ∃ v, (vs.map some ++ List.replicate k none)[i]? = some (some v) ∧ SlOk K T F H v (fp i) sv := by
  intro vs ds i sv h e
  by_cases hi : i < ds.length
  · rw [List.getElem?_append_left (by simpa using hi), List.getElem?_map] at e
    have hl := h.length
    cases hd : ds[i]? with
    | none => rw [hd] at e; cases e
    | some d =>
      rw [hd] at e
      cases e
      obtain ⟨v, h1, h2⟩ := h.getD hd
      exact ⟨v, by rw [List.getElem?_append_left (by simp; omega), List.getElem?_map, h1]; rfl, h2⟩
  · rw [List.getElem?_append_right (by simpa using hi)] at e
    simp only [List.getElem?_replicate] at e
    split at e <;> cases e
theorem Rel.start {K : PySem.W.Frag} {F H : Hp} {vs : List V} {ds : List Dt} {k : Nat} (sm : Same F H) (h : DqAll K F vs ds) : Rel K ⟨none, F, H, [], none, fun _ => []⟩ (ds.map (fun x => some (SV.d x)) ++ List.replicate k none) none (vs.map some ++ List.replicate k none) F H :=
  ⟨.refl sm, by simp [h.length], fun t e => (by cases e), fun t e => (by cases e), trivial, fun i sv e => dq_slots h e, fun i j a ha => (by cases ha), fun i a ha => (by cases ha), fun e he => (by cases he)⟩
theorem Rel.startT {K : PySem.W.Frag} {F H : Hp} {v0 : V} {d : Dt} {t : Addr} {tv : List V} {ws : List Dt} {vs : List V} {ds : List Dt} {k : Nat} (sm : Same F H) (h0 : Dq K F v0 d) (h : DqAll K F vs ds) (t1 : H t = some (.lst tv)) (t2 : F t = none) (t3 : DqAll K F tv ws) :
    Rel K ⟨some t, F, H, [], some t, fun _ => []⟩ (some (.d d) :: some .town :: (ds.map (fun x => some (SV.d x)) ++ List.replicate k none)) (some ws) (some v0 :: some (.ref t) :: (vs.map some ++ List.replicate k none)) F H :=
  ⟨.refl sm, by simp [h.length], fun t' e => e, fun t' e => .inl e, ⟨tv, t1, t2, t3⟩, fun i sv e => by
    match i, e with
    | 0, e => cases e; exact ⟨v0, rfl, h0⟩
    | 1, e => cases e; exact ⟨.ref t, rfl, t, rfl, rfl⟩
    | i + 2, e => exact dq_slots (fp := fun j => []) (i := i) h e, fun i j a ha => (by cases ha), fun i a ha => (by cases ha), fun e he => (by cases he)⟩
section
variable {P : Program} {w : World} {K : PySem.W.Frag} {mg : Str → Option Value} {base : Heap} {x qual : Str} {st : Stmt} {f : Addr} {fd : FuncData} {N ps : List Str} {k n : Nat} {B : SS}
theorem fn_P (F : Fun K x qual st f fd) (S : FnScope N ps (defScope st)) (hn : ps.length = n)
    (hb : ∀ (cdv : Value) (A : Around) (outer : List Env) (s : Shared) (H : Hp) (E : XK), Room k (A.deeper (envOfC qual (defScope st) s.heap.objs.size f cdv)) → PSs (cxOf CX0 P w K mg base N qual (defScope st) f cdv A outer s H E).nox (defBody st) (tS K X0 B)) :
    FnOk P w K mg base CX0 (k + 1) f fd ps (spP K n (runP N.length B)) := by
  refine F.ok S (fun vs H Q E h => ?_) fun cdv A outer s H vs Q E hr h => ⟨tS K X0 B, hb cdv A outer s H E hr, ?_⟩
  · obtain ⟨Fz, ds, _, hd, hl, _⟩ := h
    rw [hd.length, hl, hn]
  · obtain ⟨Fz, ds, sm, hd, hl, hm⟩ := h
    have e : L2.start N vs = vs.map some ++ List.replicate (N.length - ds.length) none := by unfold L2.start; rw [hd.length]
    rw [e]
    refine ⟨_, start0 N.length ds, none, Fz, Rel.start sm hd, ?_⟩
    unfold runP at hm
    cases hB : B (start0 N.length ds) none with
    | nx ρ W =>
      rw [hB] at hm
      exact fun G' σ' F' H' b s R => hm .non F' H' (by have g := R.gr; unfold Gh.tm at g; rw [b.T0, b.F0, b.H0] at g; exact g.mono fun _ z => nomatch z) .non
    | rt r W =>
      rw [hB] at hm
      cases r with
      | d x => exact fun G' ρ' σ' v F' H' b s R hv => hm v F' H' (by have g := R.gr; unfold Gh.tm at g; rw [b.T0, b.F0, b.H0] at g; exact g.mono fun _ z => nomatch z) hv
      | _ => exact hm.elim
    | exc c => rw [hB] at hm; exact hm.elim
    | bad => rw [hB] at hm; exact hm.elim
theorem fn_L (F : Fun K x qual st f fd) (S : FnScope N ps (defScope st)) (hn : ps.length = n)
    (hb : ∀ (cdv : Value) (A : Around) (outer : List Env) (s : Shared) (H : Hp) (E : XK), Room k (A.deeper (envOfC qual (defScope st) s.heap.objs.size f cdv)) → PSs (cxOf CX0 P w K mg base N qual (defScope st) f cdv A outer s H E).nox (defBody st) (tS K X0 B)) :
    FnOk P w K mg base CX0 (k + 1) f fd ps (spL K n (runL N.length B)) := by
  refine F.ok S (fun vs H Q E h => ?_) fun cdv A outer s H vs Q E hr h => ⟨tS K X0 B, hb cdv A outer s H E hr, ?_⟩
  · obtain ⟨Fz, ds, _, hd, hl, _⟩ := h
    rw [hd.length, hl, hn]
  · obtain ⟨Fz, ds, sm, hd, hl, hm⟩ := h
    have e : L2.start N vs = vs.map some ++ List.replicate (N.length - ds.length) none := by unfold L2.start; rw [hd.length]
    rw [e]
    refine ⟨_, start0 N.length ds, none, Fz, Rel.start sm hd, ?_⟩
    unfold runL at hm
    cases hB : B (start0 N.length ds) none with
    | nx ρ W => rw [hB] at hm; exact hm.elim
    | rt r W =>
      rw [hB] at hm
      cases r with
      | own xs =>
        intro G' ρ' σ' v F' H' b s R hv
        obtain ⟨p, us, rfl, h0, h1, h2, h3⟩ := hv
        exact hm p us F' H' (by have g := R.gr; unfold Gh.tm at g; rw [b.T0, b.F0, b.H0] at g; exact g.mono fun _ z => nomatch z) (by rw [b.H0] at h0; exact h0) h1 h2 h3
      | _ => exact hm.elim
    | exc c => rw [hB] at hm; exact hm.elim
    | bad => rw [hB] at hm; exact hm.elim
theorem fn_T (F : Fun K x qual st f fd) (S : FnScope N ps (defScope st)) (hn : ps.length = n + 2)
    (hb : ∀ (cdv : Value) (A : Around) (outer : List Env) (s : Shared) (H : Hp) (E : XK), Room k (A.deeper (envOfC qual (defScope st) s.heap.objs.size f cdv)) → PSs (cxOf CX0 P w K mg base N qual (defScope st) f cdv A outer s H E).nox (defBody st) (tS K X0 B)) :
    FnOk P w K mg base CX0 (k + 1) f fd ps (spT K n (runT N.length B)) := by
  refine F.ok S (fun vs H Q E h => ?_) fun cdv A outer s H vs Q E hr h => ⟨tS K X0 B, hb cdv A outer s H E hr, ?_⟩
  · obtain ⟨Fz, d, ds, v0, t, vr, tv, ws, rfl, _, _, hd, hl, _⟩ := h
    rw [List.length_cons, List.length_cons, hd.length, hl, hn]
  · obtain ⟨Fz, d, ds, v0, t, vr, tv, ws, rfl, sm, h0, hd, hl, t1, t2, t3, hm⟩ := h
    have e : L2.start N (v0 :: .ref t :: vr) = some v0 :: some (.ref t) :: (vr.map some ++ List.replicate (N.length - (ds.length + 2)) none) := by
      unfold L2.start
      rw [List.length_cons, List.length_cons, hd.length]
      rfl
    rw [e]
    refine ⟨_, Sx.startT N.length (d :: ds), some ws, Fz, Rel.startT sm h0 hd t1 t2 t3, ?_⟩
    unfold runT at hm
    cases hB : B (Sx.startT N.length (d :: ds)) (some ws) with
    | nx ρ W =>
      rw [hB] at hm
      cases W with
      | none => exact hm.elim
      | some ws' =>
        intro G' σ' F' H' b s R
        have hT : G'.T = some t := R.t0 t (by rw [b.T0])
        have tw := R.tw
        rw [hT] at tw
        obtain ⟨tv', q1, q2, q3⟩ := tw
        exact hm .non F' H' tv' (by have g := R.gr; unfold Gh.tm at g; rw [b.T0, b.F0, b.H0] at g; exact g.mono fun _ z => (Option.some.inj z).symm) q1 q2 q3 .non
    | rt r W =>
      rw [hB] at hm
      cases r with
      | d x =>
        cases W with
        | none => exact hm.elim
        | some ws' =>
          intro G' ρ' σ' v F' H' b s R hv
          have hT : G'.T = some t := R.t0 t (by rw [b.T0])
          have tw := R.tw
          rw [hT] at tw
          obtain ⟨tv', q1, q2, q3⟩ := tw
          exact hm v F' H' tv' (by have g := R.gr; unfold Gh.tm at g; rw [b.T0, b.F0, b.H0] at g; exact g.mono fun _ z => (Option.some.inj z).symm) q1 q2 q3 hv
      | _ => cases W <;> exact hm.elim
    | exc c => rw [hB] at hm; exact hm.elim
    | bad => rw [hB] at hm; exact hm.elim
end
end Sx

namespace Sx
open PySem PySem.Spec PyProof.Rows L2

/-! ### dicts with int keys -/
def putD (kvs : List (Int × Dt)) (k : Int) (d : Dt) : List (Int × Dt) :=
  if (kvs.any fun kv => decide (kv.1 = k)) = true then kvs.map (fun kv => if kv.1 = k then (kv.1, d) else kv) else kvs ++ [(k, d)]
def mergeD (kvs more : List (Int × Dt)) : List (Int × Dt) := more.foldl (fun acc kv => putD acc kv.1 kv.2) kvs
def valD (kvs : List (Int × Dt)) (k : Int) : Option Dt := (kvs.find? fun kv => decide (kv.1 = k)).map (·.2)
def pairsD : List Dt → Option (List (Int × Dt))
  | [] => some []
  | .tuple [.int k, v] :: ds => (pairsD ds).map fun r => (k, v) :: r
  | _ => none
def dictOf : Dt → Option (List (Int × Dt))
  | .list ds => (pairsD ds).map (mergeD [])
  | _ => none
abbrev SK := Sl → Tw → Res (List (Int × Dt) × Tw)
def kDict (e : SE) : SK := fun ρ W => (e ρ W).bind fun p => ofO (dictOf p.1) p.2
def dkAt (ρ : Sl) (i : Nat) : Option (List (Int × Dt)) := match ρ[i]? with
  | some (some (.dk kvs)) => some kvs
  | some (some (.fd kvs)) => some kvs
  | _ => none
def inDk (ρ : Sl) (i : Nat) (k : Dt) : Option Bool := match dkAt ρ i, k with
  | some kvs, .int k => some (valD kvs k).isSome
  | _, _ => none
def eDin (i : Nat) (fk : SE) : SE := fun ρ W => (fk ρ W).bind fun p => ofO ((inDk ρ i p.1).map PyData.bool) p.2
def eDnin (i : Nat) (fk : SE) : SE := fun ρ W => (fk ρ W).bind fun p => ofO ((inDk ρ i p.1).map fun b => PyData.bool (!b)) p.2
def getDk (kvs : List (Int × Dt)) (k : Dt) : Option Dt := match k with
  | .int k => valD kvs k
  | _ => none
def eDget (i : Nat) (fk : SE) : SE := fun ρ W => match dkAt ρ i with
  | some kvs => (fk ρ W).bind fun p => ofO (getDk kvs p.1) p.2
  | none => .bad
def iDk (i : Nat) : SA := fun ρ W => match ρ[i]? with
  | some (some (.fd kvs)) => .ok (kvs.map (fun kv => PyData.int kv.1), W)
  | _ => .bad
def lLock (i : Nat) (f : SA) : SA := fun ρ W => match ρ[i]? with
  | some (some (.dk kvs)) => nox (f (ρ.set i (some (.fd kvs))) W)
  | _ => .bad
def sDk (i : Nat) (f : SK) : SS := fun ρ W => rOut (f ρ W) fun kvs W1 => if i < ρ.length then .nx (ρ.set i (some (.dk kvs))) W1 else .bad
def mK (f : SK) (m : SM) : SM := fun ρ W => (f ρ W).bind fun p => (m ρ p.2).bind fun q => .ok (.dk p.1 :: q.1, q.2)
def tDk (K : PySem.W.Frag) (XE : Str → Hp → Prop) (f : SK) : TE := fun σ H Q => ∃ G ρ W F, Rel K G ρ W σ F H ∧
  Pg XE G (f ρ W) fun kvs W' => ∀ p vs F' H', Same F F' → Rel K G ρ W' σ F' H' → Fresh G p → H' p = some (.dK vs) → F' p = none → KvOk K F' vs kvs → Q (.ref p) H'
section
variable {K : PySem.W.Frag} {F : Hp}
theorem KvOk.any {k : Int} : ∀ {vs : List (Key × V)} {ds : List (Int × Dt)}, KvOk K F vs ds → (vs.any fun kv => decide (kv.1 = Sum.inl k)) = (ds.any fun kv => decide (kv.1 = k))
  | _, _, .nil => rfl
  | _, _, .cons (k := j) h t => by
    rw [List.any_cons, List.any_cons, KvOk.any t]
    congr 1
    by_cases e : j = k <;> simp [e]
theorem KvOk.find {k : Int} : ∀ {vs : List (Key × V)} {ds : List (Int × Dt)}, KvOk K F vs ds → (valV vs (Sum.inl k) = none ∧ valD ds k = none) ∨ ∃ v d, valV vs (Sum.inl k) = some v ∧ valD ds k = some d ∧ Dq K F v d
  | _, _, .nil => .inl ⟨rfl, rfl⟩
  | _, _, .cons (k := j) h t => by
    by_cases e : j = k
    · subst e
      exact .inr ⟨_, _, by unfold valV; simp, by unfold valD; simp, h⟩
    · have e1 : ∀ vs v, valV (((Sum.inl j : Key), v) :: vs) (Sum.inl k) = valV vs (Sum.inl k) := fun vs v => by unfold valV; simp [e]
      have e2 : ∀ ds d, valD ((j, d) :: ds) k = valD ds k := fun ds d => by unfold valD; simp [e]
      rw [e1, e2]
      exact KvOk.find t
theorem KvOk.map {k : Int} {v : V} {d : Dt} (hv : Dq K F v d) : ∀ {vs : List (Key × V)} {ds : List (Int × Dt)}, KvOk K F vs ds → KvOk K F (vs.map (fun kv => if kv.1 = Sum.inl k then (kv.1, v) else kv)) (ds.map (fun kv => if kv.1 = k then (kv.1, d) else kv))
  | _, _, .nil => .nil
  | _, _, .cons (k := j) h t => by
    rw [List.map_cons, List.map_cons]
    by_cases e : j = k
    · subst e
      simp only [if_true]
      exact .cons hv (KvOk.map hv t)
    · have : ¬ ((Sum.inl j : Key) = Sum.inl k) := fun z => e (Sum.inl.inj z)
      simp only [if_neg this, if_neg e]
      exact .cons h (KvOk.map hv t)
theorem KvOk.append {us : List (Key × V)} {es : List (Int × Dt)} (h' : KvOk K F us es) : ∀ {vs : List (Key × V)} {ds : List (Int × Dt)}, KvOk K F vs ds → KvOk K F (vs ++ us) (ds ++ es)
  | _, _, .nil => h'
  | _, _, .cons h t => .cons h (KvOk.append h' t)
theorem KvOk.put {k : Int} {v : V} {d : Dt} {vs : List (Key × V)} {ds : List (Int × Dt)} (h : KvOk K F vs ds) (hv : Dq K F v d) : KvOk K F (putK vs (Sum.inl k) v) (putD ds k d) := by
  unfold putK putD
  rw [h.any]
  split
  · exact h.map hv
  · exact KvOk.append (.cons hv .nil) h
theorem KvOk.merge : ∀ {us : List (Key × V)} {es : List (Int × Dt)} {vs : List (Key × V)} {ds : List (Int × Dt)}, KvOk K F us es → KvOk K F vs ds → KvOk K F (mergeK vs us) (mergeD ds es)
  | _, _, _, _, .nil, h => h
  | _, _, _, _, .cons hv t, h => by
    unfold mergeK mergeD
    rw [List.foldl_cons, List.foldl_cons]
    exact KvOk.merge t (h.put hv)
theorem pairs_of {xs : List V} {ds : List Dt} {kvs : List (Int × Dt)} (h : DqAll K F xs ds) (e : pairsD ds = some kvs) : ∃ (ps : List Addr) (us : List (Key × V)), xs = ps.map V.ref ∧ Paired (fun p kv => SqT K F p [kV kv.1, kv.2]) ps us ∧ KvOk K F us kvs := by
  induction ds generalizing xs kvs with
  | nil => cases h; cases e; exact ⟨[], [], rfl, .nil, .nil⟩
  | cons d ds ih =>
    cases h with
    | cons h1 h2 =>
      cases d <;> try (cases e; done)
      rename_i ys
      rcases ys with _ | ⟨y, _ | ⟨z, _ | ⟨z2, ys⟩⟩⟩ <;> try (cases e; done)
      · cases y <;> cases e
      · cases y <;> try (cases e; done)
        rename_i k
        have e : (pairsD ds).map (fun r => (k, z) :: r) = some kvs := e
        cases hp : pairsD ds with
        | none => rw [hp] at e; cases e
        | some r =>
          rw [hp] at e
          cases e
          obtain ⟨ps, us, rfl, q1, q2⟩ := ih h2 hp
          cases h1 with
          | tup hs ha =>
            cases ha with
            | cons a1 a2 =>
              cases a1
              cases a2 with
              | cons a2 a3 =>
                cases a3
                exact ⟨_ :: ps, (.inl k, _) :: us, rfl, .cons hs q1, .cons a2 q2⟩
      · cases y <;> cases e
theorem paired_mono {F' : Hp} (s : Same F F') : ∀ {ps : List Addr} {us : List (Key × V)}, Paired (fun p kv => SqT K F p [kV kv.1, kv.2]) ps us → Paired (fun p kv => SqT K F' p [kV kv.1, kv.2]) ps us
  | _, _, .nil => .nil
  | _, _, .cons h t => .cons (sqT_mono s h) (paired_mono s t)
end
section
variable {X : Cx} {XE : Str → Hp → Prop} {st : Stmt} {e a b : Expr} {es : List Expr} {fe fk : SE} {fl : SA} {fd : SK} {m : SM} {pos p : Pos} {i : Nat}
/-- dict([..]) -/
theorem k_dict (hc : X.calm = true) (hg : Gl X "dict") (hm : X.mg "dict" = none) (hv : bootBuiltins "dict" = some (.type "dict")) (he : PE X e (tE X.K XE fe)) (hs : starEach [e] X.env = [(false, eval e X.env)] := by rfl) : PE X (.Call (.Name "dict" p) [e] [] pos) (tDk X.K XE (kDict fe)) := by
  refine (pe_callTy (call_dictP hc) hg hm hv (pa_cons he pa_nil hs) (by decide) (by decide) hs (by rfl)).weak fun σ H Q ⟨G, ρ, W, F, R, p⟩ => ?_
  refine ⟨G, ρ, W, F, R, p.of_bind.mono fun d W1 q v F1 H1 s1 R1 hv => ?_⟩
  obtain ⟨kvs, hk, q2⟩ := q.of_ofO
  cases d <;> try (cases hk; done)
  rename_i ds
  have hk : (pairsD ds).map (mergeD []) = some kvs := hk
  cases hp : pairsD ds with
  | none => rw [hp] at hk; cases hk
  | some r =>
    rw [hp] at hk
    cases hk
    cases hv with
    | lst h1 h2 =>
      obtain ⟨ps, us, rfl, w1, w2⟩ := pairs_of h2 hp
      refine ⟨_, ps, us, rfl, R1.fh.seq h1, paired_mono R1.fh w1, fun np hnp => ?_⟩
      have g : Gr0 F1 H1 F1 (upd H1 np (.dK (mergeK [] us))) := .newH R1.fh hnp
      exact q2 np _ F1 _ s1 (R1.grow g) (R1.fresh hnp) upd_same (R1.fh.free hnp) (KvOk.merge w2 .nil)
theorem s_dk (h : PS X st (tAsg (tDk X.K XE fd) (gName i))) : PS X st (tS X.K XE (sDk i fd)) :=
  h.weak fun D σ H ⟨G, ρ, W, F, R, p⟩ => ⟨G, ρ, W, F, R, p.of_rOut.mono fun kvs W1 q np vs F1 H1 s1 R1 fr hp hF hv => by
    obtain ⟨hi, q⟩ := Po.of_ite q
    exact q _ _ F1 H1 (G.own_same i np) s1 (R1.takeSv (sv := .dk kvs) hi fr hp hF ⟨np, vs, rfl, rfl, hp, hv⟩)⟩
theorem m_k (ha : PE X e (tDk X.K XE fd)) (hr : PA X es (tM X.K XE m)) (hs : starEach (e :: es) X.env = (false, eval e X.env) :: starEach es X.env := by rfl) : PA X (e :: es) (tM X.K XE (mK fd m)) := by
  refine (pa_cons ha hr hs).weak fun σ H Q ⟨G, ρ, W, F, R, p⟩ => ?_
  refine ⟨G, ρ, W, F, R, p.of_bind.mono fun ds W1 q np us F1 H1 s1 R1 fr hp hF hv => ⟨{ G with ext := (np, .dK us) :: G.ext }, ρ, W1, F1, R1.aside hp hF fr, Pg.mono (Pg.ext q.of_bind) fun svs W2 q2 vs ps F2 H2 s2 R2 hm hd => ?_⟩⟩
  refine q2 _ (ps ++ [(np, .dK us)]) F2 H2 (s1.trans s2) (by rw [List.append_assoc]; exact R2) (.dk fr.1 (hv.mono s2) (fun e he => hd e he _ (List.mem_cons_self ..)) hm) fun e he e' he' => ?_
  rcases List.mem_append.mp he with z | z
  · exact hd e z e' (List.mem_cons_of_mem _ he')
  · rw [List.mem_singleton.mp z]
    exact Ne.symm (fr.2.2.2 e' he')
theorem dk_of {K : PySem.W.Frag} {G : Gh} {ρ : Sl} {W : Tw} {σ : L2.St} {F H : Hp} {kvs : List (Int × Dt)} (R : Rel K G ρ W σ F H) (h : dkAt ρ i = some kvs) : ∃ a vs, σ[i]? = some (some (.ref a)) ∧ Rd H a (.dK vs) ∧ KvOk K F vs kvs := by
  unfold dkAt at h
  split at h
  · rename_i kv hs
    cases h
    obtain ⟨v, h1, a, vs, rfl, _, h3, h4⟩ := R.sl i _ hs
    exact ⟨a, vs, h1, .inl h3, h4⟩
  · rename_i kv hs
    cases h
    obtain ⟨v, h1, a, o, vs, rfl, h3, h4⟩ := R.sl i _ hs
    exact ⟨a, vs, h1, .inr ⟨o, R.fh _ _ h3⟩, h4⟩
  · cases h
theorem din_of {σ : L2.St} {H : Hp} {Q : VK} {x : Str} {g : Bool → Bool} (h : tE X.K XE (fun ρ W => (fk ρ W).bind fun p => ofO ((inDk ρ i p.1).map fun b => PyData.bool (g b)) p.2) σ H Q) :
    tE X.K XE fk σ H fun y H1 => tVar i σ H1 fun x H2 => ∃ a o, x = .ref a ∧ DGet H2 a y o ∧ Q (.bl (g o.isSome)) H2 := by
  obtain ⟨G, ρ, W, F, R, p⟩ := h
  refine ⟨G, ρ, W, F, R, p.of_bind.mono fun d W1 q v F1 H1 s1 R1 hv => ?_⟩
  obtain ⟨z, hz, q2⟩ := q.of_ofO
  simp only [inDk] at hz
  cases hk : dkAt ρ i with
  | none => rw [hk] at hz; cases hz
  | some kvs =>
    rw [hk] at hz
    cases d <;> try (cases hz; done)
    cases hz
    cases hv
    rename_i k
    obtain ⟨a, vs, h1, h2, h3⟩ := dk_of R1 hk
    refine ⟨_, h1, a, valV vs (.inl k), rfl, .inl ⟨vs, .inl k, h2, rfl, rfl⟩, ?_⟩
    rcases h3.find (k := k) with ⟨e1, e2⟩ | ⟨v, d, e1, e2, _⟩
    · rw [e1]; rw [e2] at q2; exact q2 _ F1 H1 s1 R1 (.bl _)
    · rw [e1]; rw [e2] at q2; exact q2 _ F1 H1 s1 R1 (.bl _)
theorem d_din {x : Str} {p2 : Pos} (hu : X.A.units + 1 < cLine) (he : PE X e (tE X.K XE fk)) (hx : PE X (.Name x p2) (tVar i)) : PE X (.Compare e [.In] [.Name x p2] pos) (tE X.K XE (eDin i fk)) :=
  (pe_cmp (pc_din hu he hx) (by rfl)).weak fun _ _ _ h => din_of (x := x) (g := fun b => b) h
theorem d_dnin {x : Str} {p2 : Pos} (hu : X.A.units + 1 < cLine) (he : PE X e (tE X.K XE fk)) (hx : PE X (.Name x p2) (tVar i)) : PE X (.Compare e [.NotIn] [.Name x p2] pos) (tE X.K XE (eDnin i fk)) :=
  (pe_cmp (pc_dnotin hu he hx) (by rfl)).weak fun _ _ _ h => din_of (x := x) (g := fun b => !b) h
theorem c_din {x : Str} {p2 : Pos} (hu : X.A.units + 1 < cLine) (he : PE X e (tE X.K XE fk)) (hx : PE X (.Name x p2) (tVar i)) : PT X (.Compare e [.In] [.Name x p2] pos) (tT X.K XE (bOf (eDin i fk))) :=
  (pt_cmp (pc_din hu he hx) (by rfl)).weak fun _ _ _ h => din_of (x := x) (g := fun b => b) (test_of h)
theorem c_dnin {x : Str} {p2 : Pos} (hu : X.A.units + 1 < cLine) (he : PE X e (tE X.K XE fk)) (hx : PE X (.Name x p2) (tVar i)) : PT X (.Compare e [.NotIn] [.Name x p2] pos) (tT X.K XE (bOf (eDnin i fk))) :=
  (pt_cmp (pc_dnotin hu he hx) (by rfl)).weak fun _ _ _ h => din_of (x := x) (g := fun b => !b) (test_of h)
theorem d_dget {x : Str} {p2 : Pos} (hu : X.A.units + 1 < cLine) (hx : PE X (.Name x p2) (tVar i)) (he : PE X e (tE X.K XE fk)) (hs : NoSl e) : PE X (.Subscript (.Name x p2) e pos) (tE X.K XE (eDget i fk)) := by
  refine (pe_dget hu hx he hs).weak fun σ H Q ⟨G, ρ, W, F, R, p⟩ => ?_
  unfold eDget at p
  cases hk : dkAt ρ i with
  | none => simp only [hk] at p; exact p.elim
  | some kvs =>
    simp only [hk] at p
    obtain ⟨a, vs, h1, h2, h3⟩ := dk_of R hk
    refine ⟨_, h1, G, ρ, W, F, R, p.of_bind.mono fun d W1 q v F1 H1 s1 R1 hv => ?_⟩
    obtain ⟨z, hz, q2⟩ := q.of_ofO
    cases d <;> try (cases hz; done)
    cases hv
    rename_i k
    obtain ⟨a', vs', h1', h2', h3'⟩ := dk_of R1 hk
    rw [h1] at h1'
    cases h1'
    have hz : valD kvs k = some z := hz
    rcases h3'.find (k := k) with ⟨e1, e2⟩ | ⟨w, d, e1, e2, e3⟩
    · rw [e2] at hz; cases hz
    · rw [e2] at hz
      cases hz
      exact ⟨a, w, rfl, .inl ⟨vs', .inl k, h2', rfl, e1.symm⟩, q2 w F1 H1 s1 R1 e3⟩
/-- for k in d, within a lock -/
theorem wd_keys {K : PySem.W.Frag} {F : Hp} {d : Addr} {o : Obj} {vs : List (Key × V)} {kvs : List (Int × Dt)} (h : F d = some (.frz o (.dK vs))) (hk : KvOk K F vs kvs) : WalkD K F (Itk d o vs) (kvs.map fun kv => PyData.int kv.1) := by
  unfold WalkD
  have hl : ∀ {vs : List (Key × V)} {kvs : List (Int × Dt)}, KvOk K F vs kvs → vs.length = kvs.length := by
    intro vs kvs h
    induction h with
    | nil => rfl
    | cons _ _ ih => rw [List.length_cons, List.length_cons, ih]
  have hg : ∀ {vs : List (Key × V)} {kvs : List (Int × Dt)} {i : Nat} {k : Key} {v : V}, KvOk K F vs kvs → vs[i]? = some (k, v) → ∃ j d, k = .inl j ∧ kvs[i]? = some (j, d) := by
    intro vs kvs i k v h
    induction h generalizing i with
    | nil => intro e; simp at e
    | cons _ _ ih => intro e; cases i with
      | zero => simp at e; obtain ⟨rfl, _⟩ := e; exact ⟨_, _, rfl, rfl⟩
      | succ i => simp at e; obtain ⟨j, d, h1, h2⟩ := ih e; exact ⟨j, d, h1, by simpa using h2⟩
  rw [List.length_map, ← hl hk]
  refine Walk.mono walk_keys (fun H ⟨F2, s1, s2⟩ => s2 _ _ (s1 _ _ h)) fun i H x H' hi ⟨F2, s1, s2⟩ ⟨e, k, v, hx, ex⟩ F2' s1' s2' => ?_
  subst e
  obtain ⟨j, d, rfl, h2⟩ := hg hk hx
  subst ex
  exact ⟨F2', .int j, by simp [h2], .refl s2', .int j⟩
theorem i_dk {tg : Expr} {x : Str} {p2 : Pos} (hx : PE X (.Name x p2) (tVar i)) : PI X tg (.Name x p2) (tI X.K XE (iDk i)) := by
  refine (pi_keys hx).weak fun σ H R' ⟨G, ρ, W, F, R, p⟩ => ?_
  unfold iDk at p
  split at p
  · rename_i kvs hs
    obtain ⟨v, h1, a, o, vs, rfl, h3, h4⟩ := R.sl i _ hs
    exact ⟨_, h1, a, o, rfl, .inl ⟨vs, R.fh _ _ h3, p _ F H (.refl _) R (wd_keys h3 h4)⟩⟩
  · exact p.elim
end
/-! ### locks -/
mutual
theorem dq_del {K : PySem.W.Frag} {F F' : Hp} {p : Addr} {o : Obj} {u : List (Key × V)} (h0 : F p = some (.frz o (.dK u))) (e : ∀ a, a ≠ p → F' a = F a) : ∀ (d : Dt) (v : V), Dq K F v d → Dq K F' v d
  | .none, _, h => by cases h; exact .non
  | .bool b, _, h => by cases h; exact .bl b
  | .int i, _, h => by cases h; exact .int i
  | .str x, _, h => by cases h; exact .str x
  | .list ds, _, h => by
    cases h with
    | lst hs ha =>
      rename_i a xs
      refine .lst ?_ (dqAll_del h0 e ds _ ha)
      rcases hs with z | z
      · refine .inl ?_
        have hne : a ≠ p := fun q => by
          subst q
          rcases z with z | ⟨_, z⟩ <;> (rw [h0] at z; cases z)
        unfold Rd
        rw [e a hne]
        exact z
      · exact .inr z
  | .tuple ds, _, h => by
    cases h with
    | tup hs ha =>
      rename_i a xs
      refine .tup ?_ (dqAll_del h0 e ds _ ha)
      rcases hs with z | z
      · refine .inl ?_
        have hne : a ≠ p := fun q => by
          subst q
          rcases z with z | ⟨_, z⟩ <;> (rw [h0] at z; cases z)
        unfold Rd
        rw [e a hne]
        exact z
      · exact .inr z
  | .dict _, _, h => by cases h
theorem dqAll_del {K : PySem.W.Frag} {F F' : Hp} {p : Addr} {o : Obj} {u : List (Key × V)} (h0 : F p = some (.frz o (.dK u))) (e : ∀ a, a ≠ p → F' a = F a) : ∀ (ds : List Dt) (vs : List V), DqAll K F vs ds → DqAll K F' vs ds
  | [], _, h => by cases h; exact .nil
  | d :: ds, _, h => by
    cases h with
    | cons h1 h2 => exact .cons (dq_del h0 e d _ h1) (dqAll_del h0 e ds _ h2)
end
section
variable {K : PySem.W.Frag} {G : Gh} {ρ : Sl} {W W' : Tw} {σ : L2.St} {F H F' H' : Hp} {p : Addr} {u : List (Key × V)} {od : Obj} {i : Nat} {kvs : List (Int × Dt)}
def Gh.lock (G : Gh) (i : Nat) (p : Addr) (o : HO) : Gh := { G with F0 := upd G.F0 p o, H0 := upd G.H0 p o, fp := fun j => if j = i then [] else G.fp j }
theorem Rel.lock (R : Rel K G ρ W σ F H) (hs : ρ[i]? = some (some (.dk kvs))) (hσ : σ[i]? = some (some (.ref p))) (hp : H p = some (.dK u)) (hm : G.fp i = [p]) (hk : KvOk K F u kvs) :
    Rel K (G.lock i p (.frz od (.dK u))) (ρ.set i (some (.fd kvs))) W σ (upd F p (.frz od (.dK u))) (upd H p (.frz od (.dK u))) := by
  have hi : i < ρ.length := (List.getElem?_eq_some_iff.mp hs).1
  have hmem : p ∈ G.fp i := by rw [hm]; simp
  obtain ⟨q1, q2, q3, q4⟩ := R.fr i p hmem
  have sF : Same F (upd F p (.frz od (.dK u))) := same_new q1
  have hout : ∀ j, j ≠ i → p ∉ G.fp j := fun j hj hz => hj (R.dj j i p hz hmem)
  have hfp : ∀ j a, a ∈ (G.lock i p (.frz od (.dK u))).fp j → j ≠ i ∧ a ∈ G.fp j := fun j a ha => by
    unfold Gh.lock at ha
    simp only at ha
    by_cases hj : j = i
    · rw [if_pos hj] at ha; cases ha
    · rw [if_neg hj] at ha; exact ⟨hj, ha⟩
  refine ⟨⟨same_both R.gr.ff, same_both R.fh, fun a e => ?_, fun a o e n => ?_, fun a e => ?_⟩, by rw [List.length_set]; exact R.len, R.t0, fun t ht => ?_, ?_, fun j sv e => ?_, fun j k a ha hb => ?_, fun j a ha => ?_, fun e he => ?_⟩
  · by_cases ha : a = p
    · subst ha; exact .inl (by unfold Gh.lock; simp only; rw [upd_same]; exact fun z => nomatch z)
    · rw [upd_ne ha] at e
      unfold Gh.lock
      simp only
      rw [upd_ne ha, upd_ne ha]
      exact R.gr.nw a e
  · unfold Gh.lock at e
    simp only at e
    by_cases ha : a = p
    · subst ha; rw [upd_same] at e ⊢; exact e
    · rw [upd_ne ha] at e ⊢; exact R.gr.kp a o e n
  · unfold Gh.lock at e
    simp only at e
    by_cases ha : a = p
    · subst ha; rw [upd_same]; exact fun z => nomatch z
    · rw [upd_ne ha] at e ⊢; exact R.gr.th a e
  · rcases R.t1 t ht with z | z
    · exact .inl z
    · have hne : t ≠ p := fun q => q4 (by rw [← q]; exact ht)
      exact .inr (by unfold Gh.lock; simp only; rw [upd_ne hne]; exact z)
  · have t := R.tw
    revert t
    show TwOk K F H G.T W → TwOk K (upd F p _) (upd H p _) G.T W
    cases hT : G.T <;> cases W <;> intro t
    · trivial
    · exact t
    · exact t
    · rename_i tt _
      obtain ⟨tv, t1, t2, t3⟩ := t
      have hne : tt ≠ p := fun z => q4 (by rw [hT, z])
      exact ⟨tv, by rw [upd_ne hne]; exact t1, by rw [upd_ne hne]; exact t2, t3.mono sF⟩
  · by_cases hj : i = j
    · subst hj
      rw [List.getElem?_set_self hi] at e
      cases e
      exact ⟨.ref p, hσ, p, od, u, rfl, upd_same, hk.mono sF⟩
    · rw [List.getElem?_set_ne hj] at e
      obtain ⟨v, e1, e2⟩ := R.sl j sv e
      refine ⟨v, e1, ?_⟩
      unfold Gh.lock
      simp only [if_neg (Ne.symm hj)]
      have k : ∀ a, H a ≠ none → a ∈ G.fp j → upd H p (.frz od (.dK u)) a = H a := fun a _ ha => upd_ne fun z => hout j (Ne.symm hj) (by rw [← z]; exact ha)
      exact e2.keep sF k k
  · exact R.dj j k a (hfp j a ha).2 (hfp k a hb).2
  · obtain ⟨hj, ha⟩ := hfp j a ha
    have hne : a ≠ p := fun z => hout j hj (by rw [← z]; exact ha)
    obtain ⟨e1, e2, e3, e4⟩ := R.fr j a ha
    exact ⟨by rw [upd_ne hne]; exact e1, by rw [upd_ne hne]; exact e2, by unfold Gh.lock; simp only; rw [upd_ne hne]; exact e3, e4⟩
  · obtain ⟨e1, e2, e3, e4⟩ := R.ex e he
    have hne : e.1 ≠ p := fun z => e4 i (by rw [z]; exact hmem)
    exact ⟨by rw [upd_ne hne]; exact e1, by rw [upd_ne hne]; exact e2, e3, fun j hj => e4 j (hfp j _ hj).2⟩
def delH (F : Hp) (p : Addr) : Hp := fun a => if a = p then none else F a
theorem delH_ne {a : Addr} (h : a ≠ p) : delH F p a = F a := by unfold delH; rw [if_neg h]
theorem Rel.unlock (R : Rel K G ρ W σ F H) (hs : ρ[i]? = some (some (.dk kvs))) (hσ : σ[i]? = some (some (.ref p))) (hp : H p = some (.dK u)) (hm : G.fp i = [p]) (hk : KvOk K F u kvs)
    (R' : Rel K (G.lock i p (.frz od (.dK u))) (ρ.set i (some (.fd kvs))) W' σ F' H') (s : Same (upd F p (.frz od (.dK u))) F') : Rel K G ρ W' σ (delH F' p) (upd H' p (.dK u)) := by
  have hi : i < ρ.length := (List.getElem?_eq_some_iff.mp hs).1
  have hmem : p ∈ G.fp i := by rw [hm]; simp
  obtain ⟨q1, q2, q3, q4⟩ := R.fr i p hmem
  have hF' : F' p = some (.frz od (.dK u)) := s _ _ upd_same
  have hout : ∀ j, j ≠ i → p ∉ G.fp j := fun j hj hz => hj (R.dj j i p hz hmem)
  have sF : Same F (delH F' p) := fun a o e => by
    have hne : a ≠ p := ne_of_none e q1
    rw [delH_ne hne]
    exact s a o (by rw [upd_ne hne]; exact e)
  have hdel : ∀ a, a ≠ p → delH F' p a = F' a := fun a h => delH_ne h
  refine ⟨⟨R.gr.ff.trans sF, fun a o e => ?_, fun a e => ?_, fun a o e n => ?_, fun a e => ?_⟩, R.len, R.t0, R.t1, ?_, fun j sv e => ?_, R.dj, fun j a ha => ?_, fun e he => ?_⟩
  · by_cases ha : a = p
    · subst ha; unfold delH at e; rw [if_pos rfl] at e; cases e
    · rw [delH_ne ha] at e; rw [upd_ne ha]; exact R'.fh a o e
  · by_cases ha : a = p
    · subst ha; unfold delH at e; rw [if_pos rfl] at e; exact absurd rfl e
    · rw [delH_ne ha] at e
      have := R'.gr.nw a e
      unfold Gh.lock at this
      simp only at this
      rw [upd_ne ha, upd_ne ha] at this
      exact this
  · have hne : a ≠ p := fun z => by rw [z, q3] at e; cases e
    rw [upd_ne hne]
    exact R'.gr.kp a o (by unfold Gh.lock; simp only; rw [upd_ne hne]; exact e) n
  · have hne : a ≠ p := fun z => e (by rw [z]; exact q3)
    rw [upd_ne hne]
    exact R'.gr.th a (by unfold Gh.lock; simp only; rw [upd_ne hne]; exact e)
  · have t := R'.tw
    revert t
    show TwOk K F' H' G.T W' → TwOk K (delH F' p) (upd H' p _) G.T W'
    cases hT : G.T <;> cases W' <;> intro t
    · trivial
    · exact t
    · exact t
    · rename_i tt _
      obtain ⟨tv, t1, t2, t3⟩ := t
      have hne : tt ≠ p := fun z => q4 (by rw [hT, z])
      exact ⟨tv, by rw [upd_ne hne]; exact t1, by rw [delH_ne hne]; exact t2, dqAll_del hF' hdel _ _ t3⟩
  · by_cases hj : i = j
    · subst hj
      rw [hs] at e
      cases e
      exact ⟨.ref p, hσ, p, u, rfl, hm, upd_same, hk.mono sF⟩
    · obtain ⟨v, e1, e2⟩ := R'.sl j sv (by rw [List.getElem?_set_ne hj]; exact e)
      refine ⟨v, e1, ?_⟩
      obtain ⟨v2, e1', e2'⟩ := R.sl j sv e
      rw [e1] at e1'
      cases e1'
      have hfj : (G.lock i p (.frz od (.dK u))).fp j = G.fp j := by unfold Gh.lock; simp only [if_neg (Ne.symm hj)]
      rw [hfj] at e2
      cases sv with
      | d x => exact Dq.mono e2' sF
      | own xs =>
        obtain ⟨p', vs, rfl, hf, hp', ha⟩ := e2
        have hne : p' ≠ p := fun z => hout j (Ne.symm hj) (by rw [hf, ← z]; simp)
        exact ⟨p', vs, rfl, hf, by rw [upd_ne hne]; exact hp', dqAll_del hF' hdel _ _ ha⟩
      | ow2 rows =>
        obtain ⟨p', qs, rfl, hf, hp', hr, nd⟩ := e2
        have hall : ∀ a ∈ p' :: qs, a ≠ p := fun a ha z => hout j (Ne.symm hj) (by rw [hf, ← z]; exact ha)
        refine ⟨p', qs, rfl, hf, by rw [upd_ne (hall p' (by simp))]; exact hp', ?_, nd⟩
        have : ∀ {qs' : List Addr} {rs : List (List Dt)}, (∀ a ∈ qs', a ∈ qs) → Rows K F' H' qs' rs → Rows K (delH F' p) (upd H' p (.dK u)) qs' rs := by
          intro qs' rs hm r
          induction r with
          | nil => exact .nil
          | cons hq a t ih => exact .cons (by rw [upd_ne (hall _ (List.mem_cons_of_mem _ (hm _ (by simp))))]; exact hq) (dqAll_del hF' hdel _ _ a) (ih fun b hb => hm b (List.mem_cons_of_mem _ hb))
        exact this (fun _ z => z) hr
      | dk kv =>
        obtain ⟨p', vs, rfl, hf, hp', ha⟩ := e2
        obtain ⟨p2, vs2, e3, hf2, hp2, ha2⟩ := e2'
        cases e3
        have hne : p' ≠ p := fun z => hout j (Ne.symm hj) (by rw [hf, ← z]; simp)
        refine ⟨p', vs, rfl, hf, by rw [upd_ne hne]; exact hp', ?_⟩
        have : ∀ {vs : List (Key × V)} {ds : List (Int × Dt)}, KvOk K F' vs ds → KvOk K (delH F' p) vs ds := by
          intro vs ds h
          induction h with
          | nil => exact .nil
          | cons h _ ih => exact .cons (dq_del hF' hdel _ _ h) ih
        exact this ha
      | fd kv =>
        obtain ⟨p', o, vs, rfl, hp', ha⟩ := e2'
        exact ⟨p', o, vs, rfl, sF _ _ hp', ha.mono sF⟩
      | town => exact e2
  · by_cases hj : j = i
    · subst hj
      rw [hm] at ha
      rw [List.mem_singleton.mp ha]
      have hn : upd H' p (.dK u) p ≠ none := by
        rw [upd_same]
        exact fun z => nomatch z
      exact ⟨by unfold delH; rw [if_pos rfl], hn, q3, q4⟩
    · have hne : a ≠ p := fun z => hout j hj (by rw [← z]; exact ha)
      obtain ⟨e1, e2, e3, e4⟩ := R'.fr j a (by unfold Gh.lock; simp only [if_neg hj]; exact ha)
      refine ⟨by rw [delH_ne hne]; exact e1, by rw [upd_ne hne]; exact e2, (R.fr j a ha).2.2.1, e4⟩
  · obtain ⟨e1, e2, e3, e4⟩ := R'.ex e he
    obtain ⟨f1, f2, f3, f4⟩ := R.ex e he
    have hne : e.1 ≠ p := fun z => f4 i (by rw [z]; exact hmem)
    exact ⟨by rw [upd_ne hne]; exact e1, by rw [delH_ne hne]; exact e2, f3, f4⟩
end
section
variable {X : Cx} {XE : Str → Hp → Prop} {e : Expr} {fl : SA} {i : Nat}
/-- a comprehension that walks a dict of its own -/
theorem lock_of {σ : L2.St} {H : Hp} {Q : VK} (h : tL X.K XE (lLock i fl) σ H Q) : tLockE (tL X.K XE fl) σ H Q := by
  obtain ⟨G, ρ, W, F, R, p⟩ := h
  unfold lLock at p
  split at p
  · rename_i kvs hs
    obtain ⟨v, h1, a, u, rfl, h2, h3, h4⟩ := R.sl i _ hs
    refine ⟨a, .dK u, h3, trivial, fun od => ⟨_, _, W, _, R.lock hs h1 h3 h2 h4, ?_⟩⟩
    cases hf : fl (ρ.set i (some (.fd kvs))) W with
    | ok r =>
      rw [hf] at p
      intro np vs F' H' s' R' fr hnp hF hv
      have hF' : F' a = some (.frz od (.dK u)) := s' _ _ upd_same
      have hne : np ≠ a := fun z => by rw [z, hF'] at hF; cases hF
      refine ⟨R'.fh _ _ hF', ?_⟩
      obtain ⟨f1, f2, f3, f4⟩ := fr
      have q1 := (R.fr i a (by rw [h2]; simp)).1
      refine p np vs (delH F' a) _ (fun b o e => ?_) (R.unlock hs h1 h3 h2 h4 R' s') ⟨?_, fun j hj => ?_, f3, f4⟩ (by rw [upd_ne hne]; exact hnp) (by rw [delH_ne hne]; exact hF) (dqAll_del hF' (fun b hb => delH_ne hb) _ _ hv)
      · have hb : b ≠ a := ne_of_none e q1
        rw [delH_ne hb]
        exact s' b o (by rw [upd_ne hb]; exact e)
      · unfold Gh.lock at f1
        simp only at f1
        rw [upd_ne hne] at f1
        exact f1
      · have := f2 j
        unfold Gh.lock at this
        simp only at this
        by_cases hj2 : j = i
        · subst hj2
          rw [h2] at hj
          exact hne (List.mem_singleton.mp hj)
        · rw [if_neg hj2] at this
          exact this hj
    | exc c => rw [hf] at p; exact p.elim
    | bad => rw [hf] at p; exact p.elim
  · exact p.elim
theorem l_lock (i : Nat) (h : PE X e (tL X.K XE fl)) : PE X e (tL X.K XE (lLock i fl)) := (pe_lock h).weak fun _ _ _ => lock_of
end
end Sx

namespace Sx
open PySem PySem.Spec PyProof.Rows L2
/-! ### what a law's derivations stand on -/
def fuelI (i : Nat) (ρ : Sl) : Nat := match ρ[i]? with
  | some (some (.d (.int n))) => n.natAbs + 1
  | _ => 0
abbrev FnP (K : PySem.W.Frag) (x : Str) (st : Stmt) (f : Addr) (fd : FuncData) : Prop := FunD K x x (defArgs st) (defBody st) (defScope st) [] [] f fd
theorem toFun {K : PySem.W.Frag} {x : Str} {st : Stmt} {f : Addr} {fd : FuncData} (F : FnP K x st f fd) : Fun K x x st f fd := by
  obtain ⟨⟨oc, od, dV, kV, doc, pm, an, cdv, ct, osl, e, h1, h2, h3, h4⟩, kp⟩ := F
  refine ⟨⟨oc, od, kV, doc, pm, an, cdv, ct, osl, ?_, h1, h2⟩, kp⟩
  rw [e]
  have h : dV = Value.none := by
    rcases h3 with ⟨_, h⟩ | h
    · exact h
    · obtain ⟨_, _, _, _, _, _, _⟩ := h
      simp_all
  rw [h]
def CalP (P : Program) (w : World) (K : PySem.W.Frag) (mg : Str → Option Value) (base : Heap) (x : Str) (k n : Nat) (ps : List Str) (Fs : List Dt → Res Dt) : Prop :=
  ∃ f fd, FnOk P w K mg base CX0 k f fd ps (spP K n Fs) ∧ mg x = some (.ref f) ∧ PySem.W.keepIn K (.ref f) = true ∧ Binds K fd ps []
def CalL (P : Program) (w : World) (K : PySem.W.Frag) (mg : Str → Option Value) (base : Heap) (x : Str) (k n : Nat) (ps : List Str) (Fs : List Dt → Res (List Dt)) : Prop :=
  ∃ f fd, FnOk P w K mg base CX0 k f fd ps (spL K n Fs) ∧ mg x = some (.ref f) ∧ PySem.W.keepIn K (.ref f) = true ∧ Binds K fd ps []
def CalT (P : Program) (w : World) (K : PySem.W.Frag) (mg : Str → Option Value) (base : Heap) (x : Str) (k n : Nat) (ps : List Str) (Fs : List Dt → List Dt → Res (Dt × List Dt)) : Prop :=
  ∃ f fd, FnOk P w K mg base CX0 k f fd ps (spT K n Fs) ∧ mg x = some (.ref f) ∧ PySem.W.keepIn K (.ref f) = true ∧ Binds K fd ps []
theorem units64 {k : Nat} {A : Around} (h : Room k A) : A.units + 64 < cLine := by have := h.un; omega
theorem units65 {k : Nat} {A : Around} (h : Room k A) : A.units + 65 < cLine := by have := h.un; omega
theorem units1 {k : Nat} {A : Around} (h : Room k A) : A.units + 1 < cLine := by have := h.un; omega
section
variable {X : Cx} {XE : Str → Hp → Prop} {x : Str} {pos : Pos}
theorem d_gint {i : Int} (hg : Gl X x) (hm : ∃ t, X.mg x = some (.int i t)) (hd : (x == ("__debug__" : Str)) = false := by decide) : PE X (.Name x pos) (tE X.K XE (eC (.int i))) := by
  obtain ⟨t, hm⟩ := hm
  exact d_c (pe_glob (v := .int i) hg hm ⟨t, rfl⟩ hd) fun _ => .int i
/-- a global tuple of ints -/
def KTup (K : PySem.W.Frag) (a : Addr) (is : List Int) : Prop := ∃ o its n, K.lookup a = some o ∧ o.cls = .type "tuple" ∧ o.data = .seq its n ∧ its.size ≤ sizeLine ∧ Vals (is.map V.int) its.toList
theorem ints_dq {K : PySem.W.Frag} {F : Hp} : ∀ is : List Int, DqAll K F (is.map V.int) (is.map PyData.int)
  | [] => .nil
  | i :: is => .cons (.int i) (ints_dq is)
theorem d_gtup {is : List Int} (hg : Gl X x) (hm : ∃ a, X.mg x = some (.ref a) ∧ KTup X.K a is) (hd : (x == ("__debug__" : Str)) = false := by decide) : PE X (.Name x pos) (tE X.K XE (eC (.tuple (is.map PyData.int)))) := by
  obtain ⟨a, hm, hk⟩ := hm
  exact d_c (pe_glob (v := .ref a) hg hm rfl hd) fun _ => .tup (.inr hk) (ints_dq is)
end
/-- what the derivations ask of the names -/
structure Glob (K : PySem.W.Frag) (mg : Str → Option Value) : Prop where
  len_ : mg "len" = none
  sum_ : mg "sum" = none
  all_ : mg "all" = none
  any_ : mg "any" = none
  tuple_ : mg "tuple" = none
  list_ : mg "list" = none
  abs_ : mg "abs" = none
  int_ : mg "int" = none
  str_ : mg "str" = none
  bool_ : mg "bool" = none
  max_ : mg "max" = none
  min_ : mg "min" = none
  dict_ : mg "dict" = none
  range_ : mg "range" = none
  enumerate_ : mg "enumerate" = none
  zip_ : mg "zip" = none
  sorted_ : mg "sorted" = none
  isinstance : mg "isinstance" = none
def HasMost (mg : Str → Option Value) : Prop := ∃ t, mg "MOST" = some (.int 1000000 t)
def HasZero (K : PySem.W.Frag) (mg : Str → Option Value) : Prop := ∃ a, mg "ZERO" = some (.ref a) ∧ KTup K a [0, 1]
/-! ### the head's own fact: ZERO -/
def isZ : List Value → Bool
  | [.int i _, .int j _] => decide (i = 0) && decide (j = 1)
  | _ => false
def exN (_ : PySem.W.Frag) : Bool := true
def exZ (K : PySem.W.Frag) : Bool := match K.lookup (He.ga K "ZERO") with
  | some o => match o.cls, o.data with
    | .type c, .seq its _ => decide (c = "tuple") && (decide (its.size ≤ 2) && isZ its.toList)
    | _, _ => false
  | none => false
theorem exZ_ok {K : PySem.W.Frag} (h : exZ K = true) : KTup K (He.ga K "ZERO") [0, 1] := by
  unfold exZ at h
  split at h
  · rename_i o ho
    split at h
    · rename_i c its n hc hd
      simp only [Bool.and_eq_true, decide_eq_true_eq] at h
      obtain ⟨h1, h2, h3⟩ := h
      subst h1
      refine ⟨o, its, n, ho, hc, hd, Nat.le_trans h2 (by decide), ?_⟩
      unfold isZ at h3
      split at h3
      · rename_i i t j u e
        rw [e]
        simp only [Bool.and_eq_true, decide_eq_true_eq] at h3
        obtain ⟨rfl, rfl⟩ := h3
        exact .cons ⟨t, rfl⟩ (.cons ⟨u, rfl⟩ .nil)
      · cases h3
    · cases h
  · cases h
theorem law_end {K : PySem.W.Frag} {H : Hp} {a : Addr} {ns : List Int} {Fs : List Dt → Res Dt} {E : XK} (h : Fs [.list (ns.map PyData.int)] = .ok (.bool true)) (hS : SqL K H a (ns.map V.int)) : spP K 1 Fs [V.ref a] H (fun v _ => v = V.bl true) E := by
  refine ⟨H, [.list (ns.map PyData.int)], .refl _, .cons (.lst hS (ints_dq ns)) .nil, rfl, ?_⟩
  rw [h]
  intro v F' H' _ hv
  cases hv
  rfl
end Sx

namespace Sx
open PySem PySem.Spec PyProof.Rows L2

def B_is_between : SS :=
    (sRet (eAnd (eUn (isiD "int") (eVar 0)) (eAnd (eNot (eUn (isiD "bool") (eVar 0))) (eChain leD leD (eVar 1) (eVar 0) (eVar 2)))))
def F_is_between := runP 3 B_is_between

def wC_divisor_1 : SB :=
    (bOf (eBin neD (eVar 1) (eC (.int 0))))
def wB_divisor_1 : SS :=
    (sPar [0, 1] (mD (eVar 1) (mD (eBin modD (eVar 0) (eVar 1)) mNil)))
def B_divisor : SS :=
    (sSeq (sWhile (fuelI 1) wC_divisor_1 wB_divisor_1)
    (sRet (eCB absD (aCons (eVar 0) aNil))))
def F_divisor := runP 2 B_divisor

def B_is_less : SS :=
    (sRet (eBin ltD (eBin mulD (eBin ixD (eVar 0) (eC (.int 0))) (eBin ixD (eVar 1) (eC (.int 1)))) (eBin mulD (eBin ixD (eVar 1) (eC (.int 0))) (eBin ixD (eVar 0) (eC (.int 1))))))
def F_is_less := runP 2 B_is_less

def B_is_endless : SS :=
    (sRet (eAnd (eBin eqD (eBin ixD (eVar 0) (eC (.int 0))) (eC (.str "shares"))) (eBin ltD (eCB lenD (aCons (eBin ixD (eVar 0) (eC (.int 2))) aNil)) (eCB lenD (aCons (eBin ixD (eVar 0) (eC (.int 1))) aNil)))))
def F_is_endless := runP 1 B_is_endless

def B__law_town : SS :=
    (sRetL (lBin addL (eFrz (lLst (aCons (eC (.int 0)) aNil))) (eFrz (lCB listL (aCons (eVar 0) aNil)))))
def F__law_town := runL 1 B__law_town

def B__law_draw : SS :=
    (sSeq (sSetT 1 (eC (.int 0)) (eBin addD (eIxT 1 (eC (.int 0))) (eC (.int 1))))
    (sSeq (sIf (bOf (eBin eqD (eVar 0) (eFrz (lLst aNil)))) (sRet (eBin modD (eBin fdivD (eBin mulD (eBin mulD (eIxT 1 (eC (.int 0))) (eIxT 1 (eC (.int 0)))) (eC (.int 7))) (eC (.int 3))) (eVar 2))) sPass)
    (sSeq (sAsg 3 (eBin modD (eIxT 1 (eC (.int 0))) (eCB lenD (aCons (eVar 0) aNil))))
    (sSeq (sAsg 4 (eIxT 1 (eBin addD (eC (.int 1)) (eVar 3))))
    (sSeq (sIf (bAnd (bOf (eBin geD (eBin ixD (eVar 0) (eVar 3)) (eBin powD (eC (.int 10)) (eC (.int 18))))) (bOf (eBin gtD (eVar 4) (eC (.int 0))))) (sSeq (sSetT 1 (eBin addD (eC (.int 1)) (eVar 3)) (eBin fdivD (eVar 4) (eVar 2)))
    (sRet (eBin modD (eVar 4) (eVar 2)))) sPass)
    (sSeq (sAsg 5 (eBin modD (eBin addD (eBin ixD (eVar 0) (eVar 3)) (eBin mulD (eC (.int 104729)) (eIxT 1 (eC (.int 0))))) (eC (.int 4294967291))))
    (sSeq (sAsg 5 (eBin modD (eBin powD (eVar 5) (eC (.int 5))) (eC (.int 4294967279))))
    (sRet (eBin modD (eBin fdivD (eBin modD (eBin addD (eBin mulD (eBin fdivD (eVar 5) (eC (.int 64))) (eC (.int 69621))) (eVar 5)) (eC (.int 4294967231))) (eC (.int 8))) (eVar 2))))))))))
def F__law_draw := runT 6 B__law_draw

def wC__law_frac_1 : SB :=
    (bOf (eBin gtD (eVar 3) (eC (.int 0))))
def wB__law_frac_1 : SS :=
    (sPar [2, 3] (mD (eVar 3) (mD (eBin modD (eVar 2) (eVar 3)) mNil)))
def B__law_frac : SS :=
    (sSeq (sPar [2, 3] (mD (eVar 1) (mD (eCB absD (aCons (eVar 0) aNil)) mNil)))
    (sSeq (sWhile (fuelI 3) wC__law_frac_1 wB__law_frac_1)
    (sRet (eTup (aCons (eBin fdivD (eVar 0) (eVar 2)) (aCons (eBin fdivD (eVar 1) (eVar 2)) aNil))))))
def F__law_frac := runP 4 B__law_frac

def B__law_below : SS :=
    (sRet (eBin ltD (eBin mulD (eBin ixD (eVar 0) (eC (.int 0))) (eBin ixD (eVar 1) (eC (.int 1)))) (eBin mulD (eBin ixD (eVar 1) (eC (.int 0))) (eBin ixD (eVar 0) (eC (.int 1))))))
def F__law_below := runP 2 B__law_below

def B_fraction : SS :=
    (sSeq (sAsg 2 (eCall 2 F_divisor (aCons (eVar 0) (aCons (eVar 1) aNil))))
    (sRet (eTup (aCons (eBin fdivD (eVar 0) (eVar 2)) (aCons (eBin fdivD (eVar 1) (eVar 2)) aNil)))))
def F_fraction := runP 3 B_fraction

def B_lesser : SS :=
    (sRet (eIf (bOf (eCall 2 F_is_less (aCons (eVar 1) (aCons (eVar 0) aNil)))) (eVar 1) (eVar 0)))
def F_lesser := runP 2 B_lesser

def lB_are_pairs_1 : SS :=
    (sSeq (sIf (bOr (bNot (bOf (eUn (isiD "tuple") (eVar 4)))) (bOr (bOf (eBin neD (eCB lenD (aCons (eVar 4) aNil)) (eC (.int 2)))) (bNot (bOf (eCall 3 F_is_between (aCons (eBin ixD (eVar 4) (eC (.int 0))) (aCons (eC (.int 0)) (aCons (eBin subD (eVar 0) (eC (.int 1))) aNil)))))))) (sRet (eC (.bool false))) sPass)
    (sIf (bNot (bOf (eCall 3 F_is_between (aCons (eBin ixD (eVar 4) (eC (.int 1))) (aCons (eC (.int 1)) (aCons (eVar 2) aNil)))))) (sRet (eC (.bool false))) sPass))
def cE_are_pairs_2 : SE :=
    (eBin ltD (eBin ixD (eBin ixD (eVar 1) (eVar 5)) (eC (.int 0))) (eBin ixD (eBin ixD (eVar 1) (eBin addD (eVar 5) (eC (.int 1)))) (eC (.int 0))))
def B_are_pairs : SS :=
    (sSeq (sIf (bOr (bNot (bOf (eUn (isiD "tuple") (eVar 1)))) (bOf (eBin ltD (eCB lenD (aCons (eVar 1) aNil)) (eVar 3)))) (sRet (eC (.bool false))) sPass)
    (sSeq (sFor (iSeq (eVar 1)) (gN 4) lB_are_pairs_1)
    (sRet (eCB allD (aCons (eFrz (lComp (iRng (aCons (eBin subD (eCB lenD (aCons (eVar 1) aNil)) (eC (.int 1))) aNil)) (gN 5) bYes cE_are_pairs_2 [5])) aNil)))))
def F_are_pairs := runP 6 B_are_pairs

def B_is_amount : SS :=
    (sSeq (sIf (bOr (bNot (bOf (eUn (isiD "tuple") (eVar 0)))) (bOr (bOf (eBin neD (eCB lenD (aCons (eVar 0) aNil)) (eC (.int 2)))) (bNot (bOf (eCall 3 F_is_between (aCons (eBin ixD (eVar 0) (eC (.int 1))) (aCons (eC (.int 1)) (aCons (eC (.int 1000)) aNil)))))))) (sRet (eC (.bool false))) sPass)
    (sRet (eAnd (eCall 3 F_is_between (aCons (eBin ixD (eVar 0) (eC (.int 0))) (aCons (eC (.int 0)) (aCons (eBin mulD (eC (.int 1000000)) (eBin ixD (eVar 0) (eC (.int 1)))) aNil)))) (eBin eqD (eCall 2 F_divisor (aCons (eBin ixD (eVar 0) (eC (.int 0))) (aCons (eBin ixD (eVar 0) (eC (.int 1))) aNil))) (eC (.int 1))))))
def F_is_amount := runP 1 B_is_amount

def B__law_pick : SS :=
    (sRet (eBin ixD (eVar 2) (eCallT 1 F__law_draw (eVar 0) 1 (aCons (eCB lenD (aCons (eVar 2) aNil)) aNil))))
def F__law_pick := runT 3 B__law_pick

def B__law_plus : SS :=
    (sRet (eCall 2 F__law_frac (aCons (eBin addD (eBin mulD (eBin ixD (eVar 0) (eC (.int 0))) (eBin ixD (eVar 1) (eC (.int 1)))) (eBin mulD (eBin ixD (eVar 1) (eC (.int 0))) (eBin ixD (eVar 0) (eC (.int 1))))) (aCons (eBin mulD (eBin ixD (eVar 0) (eC (.int 1))) (eBin ixD (eVar 1) (eC (.int 1)))) aNil))))
def F__law_plus := runP 2 B__law_plus

def B__law_less : SS :=
    (sRet (eCall 2 F__law_frac (aCons (eBin subD (eBin mulD (eBin ixD (eVar 0) (eC (.int 0))) (eBin ixD (eVar 1) (eC (.int 1)))) (eBin mulD (eBin ixD (eVar 1) (eC (.int 0))) (eBin ixD (eVar 0) (eC (.int 1))))) (aCons (eBin mulD (eBin ixD (eVar 0) (eC (.int 1))) (eBin ixD (eVar 1) (eC (.int 1)))) aNil))))
def F__law_less := runP 2 B__law_less

def B__law_times : SS :=
    (sRet (eCall 2 F__law_frac (aCons (eBin mulD (eBin ixD (eVar 0) (eC (.int 0))) (eBin ixD (eVar 1) (eC (.int 0)))) (aCons (eBin mulD (eBin ixD (eVar 0) (eC (.int 1))) (eBin ixD (eVar 1) (eC (.int 1)))) aNil))))
def F__law_times := runP 2 B__law_times

def B__law_over : SS :=
    (sRet (eCall 2 F__law_frac (aCons (eBin mulD (eBin ixD (eVar 0) (eC (.int 0))) (eBin ixD (eVar 1) (eC (.int 1)))) (aCons (eBin mulD (eBin ixD (eVar 0) (eC (.int 1))) (eBin ixD (eVar 1) (eC (.int 0)))) aNil))))
def F__law_over := runP 2 B__law_over

def B_plus : SS :=
    (sRet (eCall 2 F_fraction (aCons (eBin addD (eBin mulD (eBin ixD (eVar 0) (eC (.int 0))) (eBin ixD (eVar 1) (eC (.int 1)))) (eBin mulD (eBin ixD (eVar 1) (eC (.int 0))) (eBin ixD (eVar 0) (eC (.int 1))))) (aCons (eBin mulD (eBin ixD (eVar 0) (eC (.int 1))) (eBin ixD (eVar 1) (eC (.int 1)))) aNil))))
def F_plus := runP 2 B_plus

def B_product : SS :=
    (sRet (eCall 2 F_fraction (aCons (eBin mulD (eBin ixD (eVar 0) (eC (.int 0))) (eBin ixD (eVar 1) (eC (.int 0)))) (aCons (eBin mulD (eBin ixD (eVar 0) (eC (.int 1))) (eBin ixD (eVar 1) (eC (.int 1)))) aNil))))
def F_product := runP 2 B_product

def B_quotient : SS :=
    (sRet (eCall 2 F_fraction (aCons (eBin mulD (eBin ixD (eVar 0) (eC (.int 0))) (eBin ixD (eVar 1) (eC (.int 1)))) (aCons (eBin mulD (eBin ixD (eVar 0) (eC (.int 1))) (eBin ixD (eVar 1) (eC (.int 0)))) aNil))))
def F_quotient := runP 2 B_quotient

def cE_is_rung_1 : SE :=
    (eVar 3)
def cE_is_rung_2 : SE :=
    (eBin inD (eVar 3) (eVar 2))
def B_is_rung : SS :=
    (sSeq (sIf (bOr (bNot (bOf (eUn (isiD "tuple") (eVar 1)))) (bOr (bNot (bOf (eChain leD leD (eC (.int 2)) (eCB lenD (aCons (eVar 1) aNil)) (eC (.int 3))))) (bNot (bOf (eUn (isiD "str") (eBin ixD (eVar 1) (eC (.int 0)))))))) (sRet (eC (.bool false))) sPass)
    (sSeq (sIf (bOf (eBin eqD (eBin ixD (eVar 1) (eC (.int 0))) (eC (.str "fixed")))) (sRet (eAnd (eBin eqD (eCB lenD (aCons (eVar 1) aNil)) (eC (.int 2))) (eCall 4 F_are_pairs (aCons (eVar 0) (aCons (eBin ixD (eVar 1) (eC (.int 1))) (aCons (eC (.int 999)) (aCons (eC (.int 1)) aNil))))))) sPass)
    (sSeq (sIf (bOr (bOf (eBin neD (eBin ixD (eVar 1) (eC (.int 0))) (eC (.str "shares")))) (bOf (eBin neD (eCB lenD (aCons (eVar 1) aNil)) (eC (.int 3))))) (sRet (eC (.bool false))) sPass)
    (sSeq (sIf (bOr (bNot (bOf (eCall 4 F_are_pairs (aCons (eVar 0) (aCons (eBin ixD (eVar 1) (eC (.int 1))) (aCons (eC (.int 20)) (aCons (eC (.int 1)) aNil))))))) (bNot (bOf (eCall 4 F_are_pairs (aCons (eVar 0) (aCons (eBin ixD (eVar 1) (eC (.int 2))) (aCons (eC (.int 999)) (aCons (eC (.int 0)) aNil)))))))) (sRet (eC (.bool false))) sPass)
    (sSeq (sAsg 2 (eFrz (lComp (iSeq (eBin ixD (eVar 1) (eC (.int 1)))) (gTu 2 (gsCons (gN 3) (gsCons (gN 4) gsNil))) bYes cE_is_rung_1 [3, 4])))
    (sRet (eCB allD (aCons (eFrz (lComp (iSeq (eBin ixD (eVar 1) (eC (.int 2)))) (gTu 2 (gsCons (gN 3) (gsCons (gN 5) gsNil))) bYes cE_is_rung_2 [3, 5])) aNil))))))))
def F_is_rung := runP 6 B_is_rung

def B_check_amount : SS :=
    (sIf (bNot (bOf (eCall 1 F_is_amount (aCons (eVar 0) aNil)))) sNever sPass)
def F_check_amount := runP 1 B_check_amount

def cE_fixed_pieces_1 : SE :=
    (eVar 5)
def lB_fixed_pieces_2 : SS :=
    (sSet 3 (eVar 4) (eCall 2 F_fraction (aCons (eVar 5) (aCons (eVar 2) aNil))))
def B_fixed_pieces : SS :=
    (sSeq (sAsg 2 (eCB sumD (aCons (eFrz (lComp (iSeq (eVar 1)) (gTu 2 (gsCons (gN 4) (gsCons (gN 5) gsNil))) bYes cE_fixed_pieces_1 [4, 5])) aNil)))
    (sSeq (sOwn 3 (lBin mulL (eFrz (lLst (aCons (eC (PyData.tuple [.int 0, .int 1])) aNil))) (eVar 0)))
    (sSeq (sFor (iSeq (eVar 1)) (gTu 2 (gsCons (gN 4) (gsCons (gN 5) gsNil))) lB_fixed_pieces_2)
    (sRet (eFrz (lLst (aCons (eTup (aCons (eTup (aCons (eVar 2) (aCons (eC (.int 1)) aNil))) (aCons (eCB tupleD (aCons (eBor 3) aNil)) aNil))) aNil)))))))
def F_fixed_pieces := runP 6 B_fixed_pieces

def cC__law_pairs_1 : SB :=
    (bOf (eBin eqD (eCallT 1 F__law_draw (eVar 0) 1 (aCons (eC (.int 2)) aNil)) (eC (.int 0))))
def cE__law_pairs_1 : SE :=
    (eVar 5)
def cE__law_pairs_2 : SE :=
    (eTup (aCons (eVar 5) (aCons (eCallT 1 F__law_pick (eVar 0) 1 (aCons (eVar 3) aNil)) aNil)))
def B__law_pairs : SS :=
    (sSeq (sAsg 4 (eFrz (lComp (iRng (aCons (eVar 2) aNil)) (gN 5) cC__law_pairs_1 cE__law_pairs_1 [5])))
    (sSeq (sIf (bOf (eBin eqD (eVar 4) (eFrz (lLst aNil)))) (sAsg 4 (eFrz (lLst (aCons (eCallT 1 F__law_draw (eVar 0) 1 (aCons (eVar 2) aNil)) aNil)))) sPass)
    (sRet (eCB tupleD (aCons (eFrz (lComp (iSeq (eVar 4)) (gN 5) bYes cE__law_pairs_2 [5])) aNil)))))
def F__law_pairs := runT 6 B__law_pairs

def B__law_amount : SS :=
    (sSeq (sAsg 2 (eCallT 1 F__law_pick (eVar 0) 1 (aCons (eFrz (lLst (aCons (eC (.int 10)) (aCons (eC (.int 50)) (aCons (eC (.int 300)) (aCons (eC (.int 3000)) (aCons (eC (.int 1000000)) aNil))))))) aNil)))
    (sSeq (sAsg 3 (eCallT 1 F__law_pick (eVar 0) 1 (aCons (eFrz (lLst (aCons (eC (.int 1)) (aCons (eC (.int 1)) (aCons (eC (.int 2)) (aCons (eC (.int 3)) (aCons (eC (.int 7)) (aCons (eC (.int 1000)) aNil)))))))) aNil)))
    (sRet (eCall 2 F__law_frac (aCons (eCallT 1 F__law_draw (eVar 0) 1 (aCons (eBin addD (eBin mulD (eVar 2) (eVar 3)) (eC (.int 1))) aNil)) (aCons (eVar 3) aNil))))))
def F__law_amount := runT 4 B__law_amount

def cE__law_rung_pays_1 : SE :=
    (eVar 11)
def lB__law_rung_pays_2 : SS :=
    (sSet 3 (eVar 7) (eCall 2 F__law_times (aCons (eTup (aCons (eVar 11) (aCons (eC (.int 1)) aNil))) (aCons (eVar 10) aNil))))
def cE__law_rung_pays_3 : SE :=
    (eTup (aCons (eVar 7) (aCons (eVar 16) aNil)))
def cE__law_rung_pays_5 : SE :=
    (eDget 4 (eVar 7))
def cC__law_rung_pays_6 : SB :=
    (bOf (eBin notInD (eBin ixD (eVar 17) (eC (.int 0))) (eVar 5)))
def cE__law_rung_pays_6 : SE :=
    (eVar 17)
def cE__law_rung_pays_7 : SE :=
    (eVar 8)
def lB__law_rung_pays_8 : SS :=
    (sIf (bAnd (bOf (eDin 4 (eVar 7))) (bOf (eCall 2 F__law_below (aCons (eTup (aCons (eDget 4 (eVar 7)) (aCons (eVar 8) aNil))) (aCons (eVar 14) aNil))))) (sApp 15 (eVar 7)) sPass)
def wC__law_rung_pays_4 : SB :=
    (bOf (eVar 6))
def wB__law_rung_pays_4 : SS :=
    (sSeq (sAsg 12 (eCall 2 F__law_less (aCons (eVar 2) (aCons (eTup (aCons (eCB sumD (aCons (eFrz (lComp (iSeq (eVar 5)) (gN 7) bYes cE__law_rung_pays_5 [7])) aNil)) (aCons (eC (.int 1)) aNil))) aNil))))
    (sSeq (sAsg 13 (eFrz (lComp (iSeq (eBin ixD (eVar 1) (eC (.int 1)))) (gN 17) cC__law_rung_pays_6 cE__law_rung_pays_6 [17])))
    (sSeq (sAsg 14 (eCall 2 F__law_over (aCons (eVar 12) (aCons (eTup (aCons (eCB max2D (aCons (eC (.int 1)) (aCons (eCB sumD (aCons (eFrz (lComp (iSeq (eVar 13)) (gTu 2 (gsCons (gN 7) (gsCons (gN 8) gsNil))) bYes cE__law_rung_pays_7 [7, 8])) aNil)) aNil))) (aCons (eC (.int 1)) aNil))) aNil))))
    (sSeq (sOwn 15 (lLst aNil))
    (sSeq (sFor (iSeq (eVar 13)) (gTu 2 (gsCons (gN 7) (gsCons (gN 8) gsNil))) lB__law_rung_pays_8)
    (sSeq (sAsg 6 (eBin neD (eBor 15) (eFrz (lLst aNil))))
    (sAsg 5 (eBin addD (eVar 5) (eBor 15)))))))))
def lB__law_rung_pays_9 : SS :=
    (sSet 3 (eVar 7) (eIf (bOf (eBin inD (eVar 7) (eVar 5))) (eTup (aCons (eDget 4 (eVar 7)) (aCons (eC (.int 1)) aNil))) (eCall 2 F__law_times (aCons (eVar 14) (aCons (eTup (aCons (eVar 8) (aCons (eC (.int 1)) aNil))) aNil)))))
def B__law_rung_pays : SS :=
    (sSeq (sOwn 3 (lBin mulL (eFrz (lLst (aCons (eTup (aCons (eC (.int 0)) (aCons (eC (.int 1)) aNil))) aNil))) (eVar 0)))
    (sSeq (sIf (bOf (eBin eqD (eBin ixD (eVar 1) (eC (.int 0))) (eC (.str "fixed")))) (sSeq (sAsg 9 (eTup (aCons (eCB sumD (aCons (eFrz (lComp (iSeq (eBin ixD (eVar 1) (eC (.int 1)))) (gTu 2 (gsCons (gN 7) (gsCons (gN 11) gsNil))) bYes cE__law_rung_pays_1 [7, 11])) aNil)) (aCons (eC (.int 1)) aNil))))
    (sSeq (sAsg 10 (eIf (bOf (eCall 2 F__law_below (aCons (eVar 2) (aCons (eVar 9) aNil)))) (eCall 2 F__law_over (aCons (eVar 2) (aCons (eVar 9) aNil))) (eTup (aCons (eC (.int 1)) (aCons (eC (.int 1)) aNil)))))
    (sSeq (sFor (iSeq (eBin ixD (eVar 1) (eC (.int 1)))) (gTu 2 (gsCons (gN 7) (gsCons (gN 11) gsNil))) lB__law_rung_pays_2)
    (fun ρ W => (sRet (eTup (aCons (eVar 3) (aCons (eCall 2 F__law_less (aCons (eVar 2) (aCons (eCall 2 F__law_times (aCons (eVar 9) (aCons (eVar 10) aNil))) aNil))) aNil)))) (frzS 3 ρ) W)))) sPass)
    (sSeq (sPar [4, 5] (mK (kDict (eFrz (lComp (iSeq (eBin ixD (eVar 1) (eC (.int 2)))) (gTu 2 (gsCons (gN 7) (gsCons (gN 16) gsNil))) bYes cE__law_rung_pays_3 [7, 16]))) (mD (eFrz (lLst aNil)) mNil)))
    (sSeq (sAsg 6 (eC (.bool true)))
    (sSeq (sWhile (fun _ => 7) wC__law_rung_pays_4 wB__law_rung_pays_4)
    (sSeq (sFor (iSeq (eBin ixD (eVar 1) (eC (.int 1)))) (gTu 2 (gsCons (gN 7) (gsCons (gN 8) gsNil))) lB__law_rung_pays_9)
    (fun ρ W => (sRet (eTup (aCons (eVar 3) (aCons (eIf (bOf (eBin eqD (eVar 13) (eFrz (lLst aNil)))) (eVar 12) (eTup (aCons (eC (.int 0)) (aCons (eC (.int 1)) aNil)))) aNil)))) (frzS 3 ρ) W)))))))
def F__law_rung_pays := runP 18 B__law_rung_pays

def B_minus : SS :=
    (sRet (eCall 2 F_plus (aCons (eVar 0) (aCons (eTup (aCons (eUn negD (eBin ixD (eVar 1) (eC (.int 0)))) (aCons (eBin ixD (eVar 1) (eC (.int 1))) aNil))) aNil))))
def F_minus := runP 2 B_minus

def cE_is_ladder_1 : SE :=
    (eCall 2 F_is_rung (aCons (eVar 1) (aCons (eVar 3) aNil)))
def B_is_ladder : SS :=
    (sSeq (sIf (bOr (bNot (bOf (eUn (isiD "tuple") (eVar 0)))) (bOr (bOf (eBin neD (eCB lenD (aCons (eVar 0) aNil)) (eC (.int 2)))) (bNot (bOf (eCall 3 F_is_between (aCons (eBin ixD (eVar 0) (eC (.int 0))) (aCons (eC (.int 1)) (aCons (eC (.int 5)) aNil)))))))) (sRet (eC (.bool false))) sPass)
    (sSeq (sAsgG (gTu 2 (gsCons (gN 1) (gsCons (gN 2) gsNil))) (eVar 0))
    (sSeq (sIf (bOr (bNot (bOf (eUn (isiD "tuple") (eVar 2)))) (bNot (bOf (eChain leD leD (eC (.int 1)) (eCB lenD (aCons (eVar 2) aNil)) (eC (.int 4)))))) (sRet (eC (.bool false))) sPass)
    (sRet (eAnd (eCB allD (aCons (eFrz (lComp (iSeq (eVar 2)) (gN 3) bYes cE_is_ladder_1 [3])) aNil)) (eCall 1 F_is_endless (aCons (eBin ixD (eVar 2) (eUn negD (eC (.int 1)))) aNil)))))))
def F_is_ladder := runP 4 B_is_ladder

def lB__law_rung_1 : SS :=
    (sIf (bAnd (bOf (eBin neD (eVar 7) (eVar 5))) (bOf (eBin gtD (eCallT 1 F__law_draw (eVar 0) 1 (aCons (eC (.int 4)) aNil)) (eC (.int 0))))) (sApp 6 (eTup (aCons (eVar 7) (aCons (eCallT 1 F__law_pick (eVar 0) 1 (aCons (eFrz (lLst (aCons (eC (.int 1)) (aCons (eC (.int 2)) (aCons (eC (.int 3)) (aCons (eC (.int 5)) (aCons (eC (.int 10)) (aCons (eC (.int 20)) (aCons (eBin mulD (eC (.int 5)) (eVar 8)) aNil))))))))) aNil)) aNil)))) sPass)
def B__law_rung : SS :=
    (sSeq (sIf (bOf (eBin eqD (eVar 3) (eC (.int 0)))) (sRet (eTup (aCons (eC (.str "fixed")) (aCons (eCallT 2 F__law_pairs (eVar 0) 1 (aCons (eVar 2) (aCons (eFrz (lLst (aCons (eC (.int 1)) (aCons (eC (.int 2)) (aCons (eC (.int 3)) (aCons (eC (.int 5)) (aCons (eC (.int 10)) (aCons (eC (.int 20)) (aCons (eC (.int 100)) (aCons (eC (.int 999)) aNil)))))))))) aNil))) aNil)))) sPass)
    (sSeq (sAsg 4 (eCallT 2 F__law_pairs (eVar 0) 1 (aCons (eVar 2) (aCons (eFrz (lLst (aCons (eC (.int 1)) (aCons (eC (.int 1)) (aCons (eC (.int 2)) (aCons (eC (.int 3)) (aCons (eC (.int 4)) (aCons (eC (.int 20)) aNil)))))))) aNil))))
    (sSeq (sAsg 5 (eIf (bOf (eBin eqD (eVar 3) (eC (.int 2)))) (eBin ixD (eCallT 1 F__law_pick (eVar 0) 1 (aCons (eVar 4) aNil)) (eC (.int 0))) (eUn negD (eC (.int 1)))))
    (sSeq (sOwn 6 (lLst aNil))
    (sSeq (sFor (iSeq (eVar 4)) (gTu 2 (gsCons (gN 7) (gsCons (gN 8) gsNil))) lB__law_rung_1)
    (sRet (eTup (aCons (eC (.str "shares")) (aCons (eVar 4) (aCons (eCB tupleD (aCons (eBor 6) aNil)) aNil))))))))))
def F__law_rung := runT 9 B__law_rung

def lB__law_pays_1 : SS :=
    (sSeq (sAsgG (gTu 2 (gsCons (gN 5) (gsCons (gN 3) gsNil))) (eCall 3 F__law_rung_pays (aCons (eBin ixD (eVar 0) (eC (.int 0))) (aCons (eVar 4) (aCons (eVar 3) aNil)))))
    (sApp 2 (eCB tupleD (aCons (eVar 5) aNil))))
def B__law_pays : SS :=
    (sSeq (sPar [2, 3] (mL (lLst aNil) (mD (eVar 1) mNil)))
    (sSeq (sFor (iSeq (eBin ixD (eVar 0) (eC (.int 1)))) (gN 4) lB__law_pays_1)
    (fun ρ W => (sRet (eVar 2)) (frzS 2 ρ) W)))
def F__law_pays := runP 6 B__law_pays

def B_check_ladder : SS :=
    (sIf (bNot (bOf (eCall 1 F_is_ladder (aCons (eVar 0) aNil)))) sNever sPass)
def F_check_ladder := runP 1 B_check_ladder

def cE_share_pieces_1 : SE :=
    (eTup (aCons (eVar 9) (aCons (eTup (aCons (eVar 12) (aCons (eC (.int 1)) aNil))) aNil)))
def cE_share_pieces_3 : SE :=
    (eVar 10)
def lB_share_pieces_4 : SS :=
    (sSeq (sSet 7 (eVar 9) (eCall 2 F_fraction (aCons (eVar 10) (aCons (eVar 6) aNil))))
    (sIf (bOf (eDin 3 (eVar 9))) (sSeq (sAsg 11 (eCall 2 F_quotient (aCons (eDget 3 (eVar 9)) (aCons (eBin ixD (eBor 7) (eVar 9)) aNil))))
    (sAsg 8 (eIf (bOf (eBin isD (eVar 8) (eC .none))) (eVar 11) (eCall 2 F_lesser (aCons (eVar 8) (aCons (eVar 11) aNil)))))) sPass))
def cE_share_pieces_5 : SE :=
    (eTup (aCons (eVar 9) (aCons (eCall 2 F_minus (aCons (eDget 3 (eVar 9)) (aCons (eCall 2 F_product (aCons (eVar 8) (aCons (eBin ixD (eBor 7) (eVar 9)) aNil))) aNil))) aNil)))
def cC_share_pieces_6 : SB :=
    (bOr (bOf (eDnin 3 (eBin ixD (eVar 13) (eC (.int 0))))) (bOf (eBin neD (eDget 3 (eBin ixD (eVar 13) (eC (.int 0)))) (eC (PyData.tuple [.int 0, .int 1])))))
def cE_share_pieces_6 : SE :=
    (eVar 13)
def cC_share_pieces_7 : SB :=
    (bOf (eBin neD (eDget 3 (eVar 9)) (eC (PyData.tuple [.int 0, .int 1]))))
def cE_share_pieces_7 : SE :=
    (eTup (aCons (eVar 9) (aCons (eDget 3 (eVar 9)) aNil)))
def wC_share_pieces_2 : SB :=
    (bOf (eBin neD (eVar 4) (eFrz (lLst aNil))))
def wB_share_pieces_2 : SS :=
    (sSeq (sAsg 6 (eCB sumD (aCons (eFrz (lComp (iSeq (eVar 4)) (gTu 2 (gsCons (gN 9) (gsCons (gN 10) gsNil))) bYes cE_share_pieces_3 [9, 10])) aNil)))
    (sSeq (sOwn 7 (lBin mulL (eFrz (lLst (aCons (eC (PyData.tuple [.int 0, .int 1])) aNil))) (eVar 0)))
    (sSeq (sAsg 8 (eC .none))
    (sSeq (sFor (iSeq (eVar 4)) (gTu 2 (gsCons (gN 9) (gsCons (gN 10) gsNil))) lB_share_pieces_4)
    (sSeq (sApp 5 (eTup (aCons (eVar 8) (aCons (eCB tupleD (aCons (eBor 7) aNil)) aNil))))
    (sSeq (sIf (bOf (eBin isD (eVar 8) (eC .none))) (fun ρ W => (sRet (eVar 5)) (frzS 5 ρ) W) sPass)
    (sSeq (sDk 3 (kDict (eFrz (lLock 3 (lComp (iDk 3) (gN 9) bYes cE_share_pieces_5 [9])))))
    (sSeq (sAsg 4 (eFrz (lComp (iSeq (eVar 4)) (gN 13) cC_share_pieces_6 cE_share_pieces_6 [13])))
    (sDk 3 (kDict (eFrz (lLock 3 (lComp (iDk 3) (gN 9) cC_share_pieces_7 cE_share_pieces_7 [9])))))))))))))
def B_share_pieces : SS :=
    (sSeq (sDk 3 (kDict (eFrz (lComp (iSeq (eVar 2)) (gTu 2 (gsCons (gN 9) (gsCons (gN 12) gsNil))) bYes cE_share_pieces_1 [9, 12]))))
    (sSeq (sPar [4, 5] (mD (eFrz (lCB listL (aCons (eVar 1) aNil))) (mL (lLst aNil) mNil)))
    (sSeq (sWhile (fun _ => 7) wC_share_pieces_2 wB_share_pieces_2)
    (fun ρ W => (sRet (eVar 5)) (frzS 5 ρ) W))))
def F_share_pieces := runP 14 B_share_pieces

def cC_payment_at_1 : SB :=
    (bNot (bOf (eCall 2 F_is_less (aCons (eVar 1) (aCons (eBin ixD (eVar 6) (eC (.int 0))) aNil)))))
def cE_payment_at_1 : SE :=
    (eVar 6)
def B_payment_at : SS :=
    (sSeq (sAsg 2 (eFrz (lComp (iSeq (eVar 0)) (gN 6) cC_payment_at_1 cE_payment_at_1 [6])))
    (sSeq (sAsgG (gTu 3 (gsCons (gN 3) (gsCons (gN 4) (gsCons (gN 5) gsNil)))) (eBin ixD (eVar 2) (eUn negD (eC (.int 1)))))
    (sRet (eCall 2 F_plus (aCons (eVar 4) (aCons (eCall 2 F_product (aCons (eVar 5) (aCons (eCall 2 F_minus (aCons (eVar 1) (aCons (eVar 3) aNil))) aNil))) aNil))))))
def F_payment_at := runP 7 B_payment_at

def cE__law_ladder_1 : SE :=
    (eCallT 2 F__law_rung (eVar 0) 1 (aCons (eVar 3) (aCons (eCallT 1 F__law_draw (eVar 0) 1 (aCons (eC (.int 2)) aNil)) aNil)))
def B__law_ladder : SS :=
    (sSeq (sAsg 3 (eBin addD (eC (.int 1)) (eCallT 1 F__law_draw (eVar 0) 1 (aCons (eVar 2) aNil))))
    (sSeq (sAsg 4 (eFrz (lComp (iRng (aCons (eCallT 1 F__law_draw (eVar 0) 1 (aCons (eC (.int 4)) aNil)) aNil)) (gN 5) bYes cE__law_ladder_1 [5])))
    (sRet (eTup (aCons (eVar 3) (aCons (eBin addD (eCB tupleD (aCons (eVar 4) aNil)) (eTup (aCons (eCallT 2 F__law_rung (eVar 0) 1 (aCons (eVar 3) (aCons (eC (.int 2)) aNil))) aNil))) aNil))))))
def F__law_ladder := runT 6 B__law_ladder

def cE__law_total_2 : SE :=
    (eCall 2 F__law_plus (aCons (eVar 4) (aCons (eVar 5) aNil)))
def lB__law_total_1 : SS :=
    (sAsg 2 (eFrz (lComp (iZip' (aCons (eVar 2) (aCons (eVar 3) aNil))) (gTu 2 (gsCons (gN 4) (gsCons (gN 5) gsNil))) bYes cE__law_total_2 [4, 5])))
def B__law_total : SS :=
    (sSeq (sAsg 2 (eBin mulD (eFrz (lLst (aCons (eTup (aCons (eC (.int 0)) (aCons (eC (.int 1)) aNil))) aNil))) (eBin ixD (eVar 0) (eC (.int 0)))))
    (sSeq (sFor (iSeq (eCall 2 F__law_pays (aCons (eVar 0) (aCons (eVar 1) aNil)))) (gN 3) lB__law_total_1)
    (sRet (eCB tupleD (aCons (eVar 2) aNil)))))
def F__law_total := runP 6 B__law_total

def B_rung_pieces : SS :=
    (sSeq (sIf (bOf (eBin eqD (eBin ixD (eVar 1) (eC (.int 0))) (eC (.str "fixed")))) (sRet (eCall 2 F_fixed_pieces (aCons (eVar 0) (aCons (eBin ixD (eVar 1) (eC (.int 1))) aNil)))) sPass)
    (sRet (eCall 3 F_share_pieces (aCons (eVar 0) (aCons (eBin ixD (eVar 1) (eC (.int 1))) (aCons (eBin ixD (eVar 1) (eC (.int 2))) aNil))))))
def F_rung_pieces := runP 2 B_rung_pieces

def cE_pieces_of_2 : SE :=
    (eTup (aCons (eVar 2) (aCons (eVar 4) (aCons (eVar 5) aNil))))
def lB_pieces_of_1 : SS :=
    (sSeq (sExt 1 (lComp (iSeq (eCall 2 F_rung_pieces (aCons (eBin ixD (eVar 0) (eC (.int 0))) (aCons (eVar 3) aNil)))) (gTu 2 (gsCons (gN 4) (gsCons (gN 5) gsNil))) bYes cE_pieces_of_2 [4, 5]))
    (sIf (bOf (eCall 1 F_is_endless (aCons (eVar 3) aNil))) (fun ρ W => (sRet (eVar 1)) (frzS 1 ρ) W) sPass))
def B_pieces_of : SS :=
    (sSeq (sOwn 1 (lLst aNil))
    (sSeq (sFor (iEnum' (aCons (eBin ixD (eVar 0) (eC (.int 1))) aNil)) (gTu 2 (gsCons (gN 2) (gsCons (gN 3) gsNil))) lB_pieces_of_1)
    (fun ρ W => (sRet (eVar 1)) (frzS 1 ρ) W)))
def F_pieces_of := runP 6 B_pieces_of

def lB_found_bends_1 : SS :=
    (sSeq (sIf (bOr (bOf (eBin eqD (eBor 2) (eFrz (lLst aNil)))) (bOf (eBin neD (eBin ixD (eBin ixD (eBor 2) (eUn negD (eC (.int 1)))) (eC (.int 2))) (eBin ixD (eVar 7) (eVar 1))))) (sApp 2 (eTup (aCons (eVar 3) (aCons (eVar 4) (aCons (eBin ixD (eVar 7) (eVar 1)) aNil))))) sPass)
    (sIf (bOf (eBin isNotD (eVar 6) (eC .none))) (sSeq (sAsg 3 (eCall 2 F_plus (aCons (eVar 3) (aCons (eVar 6) aNil))))
    (sAsg 4 (eCall 2 F_plus (aCons (eVar 4) (aCons (eCall 2 F_product (aCons (eVar 6) (aCons (eBin ixD (eVar 7) (eVar 1)) aNil))) aNil))))) sPass))
def B_found_bends : SS :=
    (sSeq (sPar [2, 3, 4] (mL (lLst aNil) (mD (eC (PyData.tuple [.int 0, .int 1])) (mD (eC (PyData.tuple [.int 0, .int 1])) mNil))))
    (sSeq (sFor (iSeq (eCall 1 F_pieces_of (aCons (eVar 0) aNil))) (gTu 3 (gsCons (gN 5) (gsCons (gN 6) (gsCons (gN 7) gsNil)))) lB_found_bends_1)
    (fun ρ W => (sRet (eVar 2)) (frzS 2 ρ) W)))
def F_found_bends := runP 8 B_found_bends

def cE_all_payments_1 : SE :=
    (eCall 2 F_payment_at (aCons (eCall 2 F_found_bends (aCons (eVar 0) (aCons (eVar 2) aNil))) (aCons (eVar 1) aNil)))
def B_all_payments : SS :=
    (sRet (eCB tupleD (aCons (eFrz (lComp (iRng (aCons (eBin ixD (eVar 0) (eC (.int 0))) aNil)) (gN 2) bYes cE_all_payments_1 [2])) aNil)))
def F_all_payments := runP 3 B_all_payments

def B_pay : SS :=
    (sSeq (sExpr (eCall 1 F_check_ladder (aCons (eVar 0) aNil)))
    (sSeq (sExpr (eCall 1 F_check_amount (aCons (eVar 1) aNil)))
    (sRet (eCall 2 F_all_payments (aCons (eVar 0) (aCons (eVar 1) aNil))))))
def F_pay := runP 2 B_pay

def cE_pay_next_1 : SE :=
    (eCall 2 F_minus (aCons (eVar 5) (aCons (eVar 6) aNil)))
def B_pay_next : SS :=
    (sSeq (sExpr (eCall 1 F_check_ladder (aCons (eVar 0) aNil)))
    (sSeq (sExpr (eCall 1 F_check_amount (aCons (eVar 1) aNil)))
    (sSeq (sExpr (eCall 1 F_check_amount (aCons (eVar 2) aNil)))
    (sSeq (sPar [3, 4] (mD (eCall 2 F_all_payments (aCons (eVar 0) (aCons (eVar 1) aNil))) (mD (eCall 2 F_all_payments (aCons (eVar 0) (aCons (eCall 2 F_plus (aCons (eVar 1) (aCons (eVar 2) aNil))) aNil))) mNil)))
    (sRet (eCB tupleD (aCons (eFrz (lComp (iZip' (aCons (eVar 4) (aCons (eVar 3) aNil))) (gTu 2 (gsCons (gN 5) (gsCons (gN 6) gsNil))) bYes cE_pay_next_1 [5, 6])) aNil)))))))
def F_pay_next := runP 7 B_pay_next

def lB__law_sum_1 : SS :=
    (sAsg 1 (eCall 2 F__law_plus (aCons (eVar 1) (aCons (eVar 2) aNil))))
def B__law_sum : SS :=
    (sSeq (sAsg 1 (eTup (aCons (eC (.int 0)) (aCons (eC (.int 1)) aNil))))
    (sSeq (sFor (iSeq (eVar 0)) (gN 2) lB__law_sum_1)
    (sRet (eVar 1))))
def F__law_sum := runP 3 B__law_sum

def cC_reached_1 : SB :=
    (bOf (eCall 1 F_is_endless (aCons (eVar 2) aNil)))
def cE_reached_1 : SE :=
    (eVar 1)
def B_reached : SS :=
    (sSeq (sExpr (eCall 1 F_check_ladder (aCons (eVar 0) aNil)))
    (sRet (eBin addD (eBin ixD (eFrz (lComp (iEnum' (aCons (eBin ixD (eVar 0) (eC (.int 1))) aNil)) (gTu 2 (gsCons (gN 1) (gsCons (gN 2) gsNil))) cC_reached_1 cE_reached_1 [1, 2])) (eC (.int 0))) (eC (.int 1)))))
def F_reached := runP 3 B_reached

def cE_needed_for_2 : SE :=
    (eBin ixD (eVar 4) (eC (.int 1)))
def lB_needed_for_1 : SS :=
    (sSeq (sIf (bOf (eCall 1 F_is_endless (aCons (eVar 3) aNil))) (sRet (eC .none)) sPass)
    (sAsg 2 (eBin addD (eVar 2) (eCB sumD (aCons (eFrz (lComp (iSeq (eBin ixD (eVar 3) (eUn negD (eC (.int 1))))) (gN 4) bYes cE_needed_for_2 [4])) aNil)))))
def B_needed_for : SS :=
    (sSeq (sExpr (eCall 1 F_check_ladder (aCons (eVar 0) aNil)))
    (sSeq (sIf (bNot (bOf (eCall 3 F_is_between (aCons (eVar 1) (aCons (eC (.int 0)) (aCons (eBin subD (eCB lenD (aCons (eBin ixD (eVar 0) (eC (.int 1))) aNil)) (eC (.int 1))) aNil)))))) sNever sPass)
    (sSeq (sAsg 2 (eC (.int 0)))
    (sSeq (sFor (iSeq (eSlice (eBin ixD (eVar 0) (eC (.int 1))) oNone (oSome (eBin addD (eVar 1) (eC (.int 1)))))) (gN 3) lB_needed_for_1)
    (sRet (eVar 2))))))
def F_needed_for := runP 5 B_needed_for

-- SKIP pay_rungs S found[number][holder] = plus(found[number][holder], product(part, rate))
def B_check_holder : SS :=
    (sIf (bNot (bOf (eCall 3 F_is_between (aCons (eVar 1) (aCons (eC (.int 0)) (aCons (eBin subD (eBin ixD (eVar 0) (eC (.int 0))) (eC (.int 1))) aNil)))))) sNever sPass)
def F_check_holder := runP 2 B_check_holder

def B_bends : SS :=
    (sSeq (sExpr (eCall 1 F_check_ladder (aCons (eVar 0) aNil)))
    (sSeq (sExpr (eCall 2 F_check_holder (aCons (eVar 0) (aCons (eVar 1) aNil))))
    (sRet (eCB tupleD (aCons (eCall 2 F_found_bends (aCons (eVar 0) (aCons (eVar 1) aNil))) aNil)))))
def F_bends := runP 2 B_bends

def cC_rate_after_1 : SB :=
    (bNot (bOf (eCall 2 F_is_less (aCons (eVar 2) (aCons (eBin ixD (eVar 3) (eC (.int 0))) aNil)))))
def cE_rate_after_1 : SE :=
    (eVar 3)
def B_rate_after : SS :=
    (sSeq (sExpr (eCall 1 F_check_ladder (aCons (eVar 0) aNil)))
    (sSeq (sExpr (eCall 2 F_check_holder (aCons (eVar 0) (aCons (eVar 1) aNil))))
    (sSeq (sExpr (eCall 1 F_check_amount (aCons (eVar 2) aNil)))
    (sRet (eBin ixD (eBin ixD (eFrz (lComp (iSeq (eCall 2 F_found_bends (aCons (eVar 0) (aCons (eVar 1) aNil)))) (gN 3) cC_rate_after_1 cE_rate_after_1 [3])) (eUn negD (eC (.int 1)))) (eC (.int 2)))))))
def F_rate_after := runP 4 B_rate_after

def lB_least_amount_1 : SS :=
    (sSeq (sIf (bNot (bOf (eCall 2 F_is_less (aCons (eBin ixD (eVar 5) (eC (.int 1))) (aCons (eVar 2) aNil))))) (sRet (eBin ixD (eVar 5) (eC (.int 0)))) sPass)
    (sSeq (sAsg 6 (eBin eqD (eBin addD (eVar 4) (eC (.int 1))) (eCB lenD (aCons (eVar 3) aNil))))
    (sIf (bAnd (bOf (eBin neD (eBin ixD (eVar 5) (eC (.int 2))) (eC (PyData.tuple [.int 0, .int 1])))) (bOr (bOf (eVar 6)) (bNot (bOf (eCall 2 F_is_less (aCons (eBin ixD (eBin ixD (eVar 3) (eBin addD (eVar 4) (eC (.int 1)))) (eC (.int 1))) (aCons (eVar 2) aNil))))))) (sRet (eCall 2 F_plus (aCons (eBin ixD (eVar 5) (eC (.int 0))) (aCons (eCall 2 F_quotient (aCons (eCall 2 F_minus (aCons (eVar 2) (aCons (eBin ixD (eVar 5) (eC (.int 1))) aNil))) (aCons (eBin ixD (eVar 5) (eC (.int 2))) aNil))) aNil)))) sPass)))
def B_least_amount : SS :=
    (sSeq (sExpr (eCall 1 F_check_ladder (aCons (eVar 0) aNil)))
    (sSeq (sExpr (eCall 2 F_check_holder (aCons (eVar 0) (aCons (eVar 1) aNil))))
    (sSeq (sIf (bNot (bOf (eCall 1 F_is_amount (aCons (eVar 2) aNil)))) sNever sPass)
    (sSeq (sAsg 3 (eCall 2 F_found_bends (aCons (eVar 0) (aCons (eVar 1) aNil))))
    (sSeq (sFor (iEnum' (aCons (eVar 3) aNil)) (gTu 2 (gsCons (gN 4) (gsCons (gN 5) gsNil))) lB_least_amount_1)
    (sRet (eC .none)))))))
def F_least_amount := runP 7 B_least_amount

def B_check_like : SS :=
    (sIf (bOf (eBin neD (eBin ixD (eVar 0) (eC (.int 0))) (eBin ixD (eVar 1) (eC (.int 0))))) sNever sPass)
def F_check_like := runP 2 B_check_like

def B_sign_of : SS :=
    (sRet (eBin subD (eCB intD (aCons (eBin gtD (eBin ixD (eVar 0) (eC (.int 0))) (eC (.int 0))) aNil)) (eCB intD (aCons (eBin ltD (eBin ixD (eVar 0) (eC (.int 0))) (eC (.int 0))) aNil))))
def F_sign_of := runP 1 B_sign_of

def cC_rate_at_1 : SB :=
    (bNot (bOf (eCall 2 F_is_less (aCons (eVar 1) (aCons (eBin ixD (eVar 2) (eC (.int 0))) aNil)))))
def cE_rate_at_1 : SE :=
    (eVar 2)
def B_rate_at : SS :=
    (sRet (eBin ixD (eBin ixD (eFrz (lComp (iSeq (eVar 0)) (gN 2) cC_rate_at_1 cE_rate_at_1 [2])) (eUn negD (eC (.int 1)))) (eC (.int 2))))
def F_rate_at := runP 3 B_rate_at

def cC_in_order_2 : SB :=
    (bOf (eCall 2 F_is_less (aCons (eVar 4) (aCons (eVar 2) aNil))))
def cE_in_order_2 : SE :=
    (eVar 4)
def lB_in_order_1 : SS :=
    (sSeq (sAsg 3 (eCB lenD (aCons (eFrz (lComp (iSeq (eVar 1)) (gN 4) cC_in_order_2 cE_in_order_2 [4])) aNil)))
    (sIf (bOr (bOf (eBin eqD (eVar 3) (eCB lenD (aCons (eVar 1) aNil)))) (bOf (eBin neD (eBin ixD (eVar 1) (eVar 3)) (eVar 2)))) (sAsg 1 (eBin addD (eBin addD (eSlice (eVar 1) oNone (oSome (eVar 3))) (eFrz (lLst (aCons (eVar 2) aNil)))) (eSlice (eVar 1) (oSome (eVar 3)) oNone))) sPass))
def B_in_order : SS :=
    (sSeq (sAsg 1 (eFrz (lLst aNil)))
    (sSeq (sFor (iSeq (eVar 0)) (gN 2) lB_in_order_1)
    (sRet (eVar 1))))
def F_in_order := runP 5 B_in_order

def cC__law_sorted_2 : SB :=
    (bOf (eCall 2 F__law_below (aCons (eVar 4) (aCons (eVar 2) aNil))))
def cE__law_sorted_2 : SE :=
    (eVar 4)
def lB__law_sorted_1 : SS :=
    (sSeq (sAsg 3 (eCB lenD (aCons (eFrz (lComp (iSeq (eVar 1)) (gN 4) cC__law_sorted_2 cE__law_sorted_2 [4])) aNil)))
    (sAsg 1 (eBin addD (eBin addD (eSlice (eVar 1) oNone (oSome (eVar 3))) (eFrz (lLst (aCons (eVar 2) aNil)))) (eSlice (eVar 1) (oSome (eVar 3)) oNone))))
def B__law_sorted : SS :=
    (sSeq (sAsg 1 (eFrz (lLst aNil)))
    (sSeq (sFor (iSeq (eVar 0)) (gN 2) lB__law_sorted_1)
    (sRet (eVar 1))))
def F__law_sorted := runP 5 B__law_sorted

def B__law_other : SS :=
    (sSeq (sAsgG (gTu 2 (gsCons (gN 3) (gsCons (gN 4) gsNil))) (eVar 2))
    (sSeq (sAsg 5 (eCallT 1 F__law_draw (eVar 0) 1 (aCons (eCB lenD (aCons (eVar 4) aNil)) aNil)))
    (sSeq (sAsg 6 (eCallT 1 F__law_draw (eVar 0) 1 (aCons (eC (.int 4)) aNil)))
    (sSeq (sIf (bAnd (bOf (eBin eqD (eVar 6) (eC (.int 0)))) (bOf (eBin ltD (eCB lenD (aCons (eVar 4) aNil)) (eC (.int 4))))) (sRet (eTup (aCons (eVar 3) (aCons (eBin addD (eBin addD (eSlice (eVar 4) oNone (oSome (eVar 5))) (eTup (aCons (eCallT 2 F__law_rung (eVar 0) 1 (aCons (eVar 3) (aCons (eCallT 1 F__law_draw (eVar 0) 1 (aCons (eC (.int 2)) aNil)) aNil))) aNil))) (eSlice (eVar 4) (oSome (eVar 5)) oNone)) aNil)))) sPass)
    (sSeq (sIf (bAnd (bOf (eBin eqD (eVar 6) (eC (.int 1)))) (bAnd (bOf (eBin gtD (eCB lenD (aCons (eVar 4) aNil)) (eC (.int 1)))) (bOf (eBin ltD (eBin addD (eVar 5) (eC (.int 1))) (eCB lenD (aCons (eVar 4) aNil)))))) (sRet (eTup (aCons (eVar 3) (aCons (eBin addD (eSlice (eVar 4) oNone (oSome (eVar 5))) (eSlice (eVar 4) (oSome (eBin addD (eVar 5) (eC (.int 1)))) oNone)) aNil)))) sPass)
    (sSeq (sIf (bAnd (bOf (eBin eqD (eVar 6) (eC (.int 2)))) (bOf (eBin ltD (eBin addD (eVar 5) (eC (.int 1))) (eCB lenD (aCons (eVar 4) aNil))))) (sRet (eTup (aCons (eVar 3) (aCons (eBin addD (eBin addD (eSlice (eVar 4) oNone (oSome (eVar 5))) (eTup (aCons (eCallT 2 F__law_rung (eVar 0) 1 (aCons (eVar 3) (aCons (eCallT 1 F__law_draw (eVar 0) 1 (aCons (eC (.int 2)) aNil)) aNil))) aNil))) (eSlice (eVar 4) (oSome (eBin addD (eVar 5) (eC (.int 1)))) oNone)) aNil)))) sPass)
    (sRet (eTup (aCons (eVar 3) (aCons (eBin addD (eSlice (eVar 4) oNone (oSome (eUn negD (eC (.int 1))))) (eTup (aCons (eCallT 2 F__law_rung (eVar 0) 1 (aCons (eVar 3) (aCons (eC (.int 2)) aNil))) aNil))) aNil))))))))))
def F__law_other := runT 7 B__law_other

def B_check_both : SS :=
    (sSeq (sExpr (eCall 1 F_check_ladder (aCons (eVar 0) aNil)))
    (sExpr (eCall 1 F_check_ladder (aCons (eVar 1) aNil))))
def F_check_both := runP 2 B_check_both

def cE_found_signs_1 : SE :=
    (eBin ixD (eVar 12) (eC (.int 0)))
def lB_found_signs_3 : SS :=
    (sIf (bOr (bOf (eBin eqD (eBor 6) (eFrz (lLst aNil)))) (bOf (eBin neD (eBin ixD (eBin ixD (eBor 6) (eUn negD (eC (.int 1)))) (eC (.int 1))) (eBin ixD (eVar 12) (eC (.int 1)))))) (sApp 6 (eVar 12)) sPass)
def lB_found_signs_2 : SS :=
    (sSeq (sAsg 9 (eCall 2 F_minus (aCons (eCall 2 F_payment_at (aCons (eVar 4) (aCons (eVar 8) aNil))) (aCons (eCall 2 F_payment_at (aCons (eVar 3) (aCons (eVar 8) aNil))) aNil))))
    (sSeq (sAsg 10 (eCall 2 F_minus (aCons (eCall 2 F_rate_at (aCons (eVar 4) (aCons (eVar 8) aNil))) (aCons (eCall 2 F_rate_at (aCons (eVar 3) (aCons (eVar 8) aNil))) aNil))))
    (sSeq (sOwn 11 (lLst (aCons (eTup (aCons (eVar 8) (aCons (eIf (bOf (eBin neD (eVar 9) (eC (PyData.tuple [.int 0, .int 1])))) (eCall 1 F_sign_of (aCons (eVar 9) aNil)) (eCall 1 F_sign_of (aCons (eVar 10) aNil))) aNil))) aNil)))
    (sSeq (sIf (bOf (eBin ltD (eBin mulD (eCall 1 F_sign_of (aCons (eVar 9) aNil)) (eCall 1 F_sign_of (aCons (eVar 10) aNil))) (eC (.int 0)))) (sSeq (sAsg 13 (eCall 2 F_plus (aCons (eVar 8) (aCons (eCall 2 F_quotient (aCons (eTup (aCons (eCB absD (aCons (eBin ixD (eVar 9) (eC (.int 0))) aNil)) (aCons (eBin ixD (eVar 9) (eC (.int 1))) aNil))) (aCons (eTup (aCons (eCB absD (aCons (eBin ixD (eVar 10) (eC (.int 0))) aNil)) (aCons (eBin ixD (eVar 10) (eC (.int 1))) aNil))) aNil))) aNil))))
    (sIf (bOr (bOf (eBin eqD (eBin addD (eVar 7) (eC (.int 1))) (eCB lenD (aCons (eVar 5) aNil)))) (bOf (eCall 2 F_is_less (aCons (eVar 13) (aCons (eBin ixD (eVar 5) (eBin addD (eVar 7) (eC (.int 1)))) aNil))))) (sApp 11 (eTup (aCons (eVar 13) (aCons (eCall 1 F_sign_of (aCons (eVar 10) aNil)) aNil)))) sPass)) sPass)
    (fun ρ W => (sFor (iSeq (eVar 11)) (gN 12) lB_found_signs_3) (frzS 11 ρ) W)))))
def B_found_signs : SS :=
    (sSeq (sPar [3, 4] (mD (eCall 2 F_found_bends (aCons (eVar 0) (aCons (eVar 2) aNil))) (mD (eCall 2 F_found_bends (aCons (eVar 1) (aCons (eVar 2) aNil))) mNil)))
    (sSeq (sAsg 5 (eCall 1 F_in_order (aCons (eFrz (lComp (iSeq (eBin addD (eVar 3) (eVar 4))) (gN 12) bYes cE_found_signs_1 [12])) aNil)))
    (sSeq (sOwn 6 (lLst aNil))
    (sSeq (sFor (iEnum' (aCons (eVar 5) aNil)) (gTu 2 (gsCons (gN 7) (gsCons (gN 8) gsNil))) lB_found_signs_2)
    (fun ρ W => (sRet (eVar 6)) (frzS 6 ρ) W)))))
def F_found_signs := runP 14 B_found_signs

def cC_first_parting_2 : SB :=
    (bOf (eBin neD (eVar 5) (eC (.int 0))))
def cE_first_parting_2 : SE :=
    (eVar 4)
def lB_first_parting_1 : SS :=
    (sExt 2 (lComp (iSeq (eCall 3 F_found_signs (aCons (eVar 0) (aCons (eVar 1) (aCons (eVar 3) aNil))))) (gTu 2 (gsCons (gN 4) (gsCons (gN 5) gsNil))) cC_first_parting_2 cE_first_parting_2 [4, 5]))
def B_first_parting : SS :=
    (sSeq (sOwn 2 (lLst aNil))
    (sSeq (sFor (iRng (aCons (eBin ixD (eVar 0) (eC (.int 0))) aNil)) (gN 3) lB_first_parting_1)
    (fun ρ W => (sRet (eIf (bOf (eBin neD (eBor 2) (eFrz (lLst aNil)))) (eBin ixD (eCall 1 F_in_order (aCons (eVar 2) aNil)) (eC (.int 0))) (eC .none))) (frzS 2 ρ) W)))
def F_first_parting := runP 6 B_first_parting

def cC__law_starts_3 : SB :=
    (bOf (eBin notInD (eBin ixD (eVar 4) (eC (.int 0))) (eVar 1)))
def cE__law_starts_3 : SE :=
    (eBin ixD (eVar 4) (eC (.int 0)))
def lB__law_starts_2 : SS :=
    (sAsg 1 (eBin addD (eVar 1) (eFrz (lComp (iSeq (eCall 2 F_bends (aCons (eVar 2) (aCons (eVar 3) aNil)))) (gN 4) cC__law_starts_3 cE__law_starts_3 [4]))))
def lB__law_starts_1 : SS :=
    (sFor (iRng (aCons (eBin ixD (eVar 2) (eC (.int 0))) aNil)) (gN 3) lB__law_starts_2)
def B__law_starts : SS :=
    (sSeq (sAsg 1 (eFrz (lLst aNil)))
    (sSeq (sFor (iSeq (eVar 0)) (gN 2) lB__law_starts_1)
    (sRet (eCall 1 F__law_sorted (aCons (eVar 1) aNil)))))
def F__law_starts := runP 5 B__law_starts

def B_are_alike : SS :=
    (sSeq (sExpr (eCall 2 F_check_both (aCons (eVar 0) (aCons (eVar 1) aNil))))
    (sSeq (sExpr (eCall 2 F_check_like (aCons (eVar 0) (aCons (eVar 1) aNil))))
    (sRet (eBin isD (eCall 2 F_first_parting (aCons (eVar 0) (aCons (eVar 1) aNil))) (eC .none)))))
def F_are_alike := runP 2 B_are_alike

def B_parting_after : SS :=
    (sSeq (sExpr (eCall 2 F_check_both (aCons (eVar 0) (aCons (eVar 1) aNil))))
    (sSeq (sExpr (eCall 2 F_check_like (aCons (eVar 0) (aCons (eVar 1) aNil))))
    (sRet (eCall 2 F_first_parting (aCons (eVar 0) (aCons (eVar 1) aNil))))))
def F_parting_after := runP 2 B_parting_after

def B__law_sign : SS :=
    (sSeq (sAsg 4 (eCall 2 F__law_less (aCons (eBin ixD (eCall 2 F__law_total (aCons (eVar 1) (aCons (eVar 3) aNil))) (eVar 2)) (aCons (eBin ixD (eCall 2 F__law_total (aCons (eVar 0) (aCons (eVar 3) aNil))) (eVar 2)) aNil))))
    (sRet (eBin subD (eCB intD (aCons (eBin gtD (eBin ixD (eVar 4) (eC (.int 0))) (eC (.int 0))) aNil)) (eCB intD (aCons (eBin ltD (eBin ixD (eVar 4) (eC (.int 0))) (eC (.int 0))) aNil)))))
def F__law_sign := runP 5 B__law_sign

def lB__law_is_between_2 : SS :=
    (sIf (bOf (eBin gtD (eBin ixD (eVar 6) (eC (.int 0))) (eC (.int 0)))) (sSeq (sAsg 8 (eCall 2 F__law_plus (aCons (eBin ixD (eVar 3) (eVar 5)) (aCons (eCall 2 F__law_times (aCons (eVar 6) (aCons (eVar 7) aNil))) aNil))))
    (sIf (bOf (eBin neD (eCall 4 F__law_sign (aCons (eVar 0) (aCons (eVar 1) (aCons (eVar 2) (aCons (eVar 8) aNil))))) (eVar 4))) (sRet (eC (.bool false))) sPass)) sPass)
def lB__law_is_between_1 : SS :=
    (sSeq (sAsg 6 (eCall 2 F__law_less (aCons (eBin ixD (eVar 3) (eBin addD (eVar 5) (eC (.int 1)))) (aCons (eBin ixD (eVar 3) (eVar 5)) aNil))))
    (sFor (iSeq (eTup (aCons (eTup (aCons (eC (.int 1)) (aCons (eC (.int 999)) aNil))) (aCons (eTup (aCons (eC (.int 1)) (aCons (eC (.int 2)) aNil))) (aCons (eTup (aCons (eC (.int 998)) (aCons (eC (.int 999)) aNil))) aNil))))) (gN 7) lB__law_is_between_2))
def B__law_is_between : SS :=
    (sSeq (sFor (iRng (aCons (eBin subD (eCB lenD (aCons (eVar 3) aNil)) (eC (.int 1))) aNil)) (gN 5) lB__law_is_between_1)
    (sRet (eC (.bool true))))
def F__law_is_between := runP 9 B__law_is_between

def B_gains : SS :=
    (sSeq (sExpr (eCall 2 F_check_both (aCons (eVar 0) (aCons (eVar 1) aNil))))
    (sSeq (sExpr (eCall 2 F_check_holder (aCons (eVar 0) (aCons (eVar 2) aNil))))
    (sSeq (sExpr (eCall 2 F_check_like (aCons (eVar 0) (aCons (eVar 1) aNil))))
    (sRet (eCB tupleD (aCons (eCall 3 F_found_signs (aCons (eVar 0) (aCons (eVar 1) (aCons (eVar 2) aNil)))) aNil))))))
def F_gains := runP 3 B_gains

end Sx

namespace Sx
open PySem PySem.Spec PyProof.Rows L2
/-! ### evaluation of the semantic functions, for simp -/
section
variable {ρ : Sl} {W : Tw} {i n : Nat} {e e1 e2 a b c k : SE} {as f : SA} {x : Dt}
@[simp] theorem eVar_s : eVar i ρ W = (match ρ[i]? with | some (some (.d x)) => .ok (x, W) | _ => .bad) := rfl
@[simp] theorem eBor_s : eBor i ρ W = (match ρ[i]? with | some (some (.d x)) => .ok (x, W) | some (some (.own xs)) => .ok (.list xs, W) | _ => .bad) := rfl
@[simp] theorem eC_s : eC x ρ W = .ok (x, W) := rfl
@[simp] theorem eBin_s {g} : eBin g a b ρ W = (a ρ W).bind fun p => (b ρ p.2).bind fun q => ofO (g p.1 q.1) q.2 := rfl
@[simp] theorem eUn_s {g} : eUn g a ρ W = (a ρ W).bind fun p => ofO (g p.1) p.2 := rfl
@[simp] theorem aNil_s : aNil ρ W = .ok ([], W) := rfl
@[simp] theorem aCons_s : aCons e as ρ W = (e ρ W).bind fun p => (as ρ p.2).bind fun q => .ok (p.1 :: q.1, q.2) := rfl
@[simp] theorem eTup_s : eTup as ρ W = (as ρ W).bind fun p => if p.1.length ≤ 100000 then .ok (.tuple p.1, p.2) else .bad := rfl
@[simp] theorem lLst_s : lLst as ρ W = (as ρ W).bind fun p => if p.1.length ≤ 100000 then .ok p else .bad := rfl
@[simp] theorem eFrz_s : eFrz f ρ W = (f ρ W).bind fun p => .ok (.list p.1, p.2) := rfl
@[simp] theorem eCB_s {g} : eCB g as ρ W = (as ρ W).bind fun p => ofO (g p.1) p.2 := rfl
@[simp] theorem lCB_s {g} : lCB g as ρ W = (as ρ W).bind fun p => ofO (g p.1) p.2 := rfl
@[simp] theorem bOf_s : bOf e ρ W = (e ρ W).bind fun p => ofO (asB p.1) p.2 := rfl
@[simp] theorem bAnd_s {a b : SB} : bAnd a b ρ W = (a ρ W).bind fun p => if p.1 = true then b ρ p.2 else .ok (false, p.2) := rfl
@[simp] theorem bOr_s {a b : SB} : bOr a b ρ W = (a ρ W).bind fun p => if p.1 = true then .ok (true, p.2) else b ρ p.2 := rfl
@[simp] theorem bNot_s {a : SB} : bNot a ρ W = (a ρ W).bind fun p => .ok (!p.1, p.2) := rfl
@[simp] theorem eAnd_s : eAnd a b ρ W = (bOf a ρ W).bind fun p => if p.1 = true then b ρ p.2 else .ok (.bool false, p.2) := rfl
@[simp] theorem eOr_s : eOr a b ρ W = (bOf a ρ W).bind fun p => if p.1 = true then .ok (.bool true, p.2) else b ρ p.2 := rfl
@[simp] theorem eNot_s : eNot a ρ W = (bOf a ρ W).bind fun p => .ok (.bool (!p.1), p.2) := rfl
@[simp] theorem eIf_s {c : SB} : eIf c a b ρ W = (c ρ W).bind fun p => if p.1 = true then a ρ p.2 else b ρ p.2 := rfl
@[simp] theorem lIf_s {c : SB} {a b : SA} : lIf c a b ρ W = (c ρ W).bind fun p => if p.1 = true then a ρ p.2 else b ρ p.2 := rfl
@[simp] theorem eChain_s {g g'} : eChain g g' a b c ρ W = (a ρ W).bind fun p => (b ρ p.2).bind fun q => (ofO ((g p.1 q.1).bind asB) q.2).bind fun k =>
  if k.1 = true then (c ρ q.2).bind fun r => ofO (g' q.1 r.1) r.2 else .ok (.bool false, q.2) := rfl
@[simp] theorem ofO_some {α : Type} {a : α} : ofO (some a) W = .ok (a, W) := rfl
@[simp] theorem ofO_none {α : Type} : ofO (none : Option α) W = .bad := rfl
@[simp] theorem asB_bool {b : Bool} : asB (.bool b) = some b := rfl
@[simp] theorem eSlice_s {lo hi : SO} : eSlice e lo hi ρ W = (e ρ W).bind fun p => (lo ρ p.2).bind fun l => (hi ρ l.2).bind fun h => ofO (sliceD p.1 l.1 h.1) h.2 := rfl
@[simp] theorem oNone_s : oNone ρ W = .ok (none, W) := rfl
@[simp] theorem oSome_s : oSome e ρ W = (e ρ W).bind fun p => ofO ((asI p.1).map some) p.2 := rfl
@[simp] theorem asI_int {i : Int} : asI (.int i) = some i := rfl
@[simp] theorem lBin_s {g} : lBin g a b ρ W = (a ρ W).bind fun p => (b ρ p.2).bind fun q => ofO (g p.1 q.1) q.2 := rfl
@[simp] theorem eCall_s {Fs} : eCall n Fs as ρ W = (as ρ W).bind fun p => if p.1.length = n then resT (Fs p.1) p.2 else .bad := rfl
@[simp] theorem lCall_s {Fs} : lCall n Fs as ρ W = (as ρ W).bind fun p => if p.1.length = n then resT (Fs p.1) p.2 else .bad := rfl
@[simp] theorem resT_ok {α : Type} {r : α} : resT (.ok r) W = .ok (r, W) := rfl
@[simp] theorem twnT_ok {r : Dt × List Dt} : twnT (.ok r) = .ok (r.1, some r.2) := rfl
@[simp] theorem eCallT_s {Fs} : eCallT n Fs e i as ρ W = (e ρ W).bind fun p => match ρ[i]? with
  | some (some .town) => (as ρ p.2).bind fun q => match q.2 with
    | some ws => if q.1.length = n then twnT (Fs (p.1 :: q.1) ws) else .bad
    | none => .bad
  | _ => .bad := rfl
@[simp] theorem iSeq_s : iSeq e ρ W = (e ρ W).bind fun p => ofO (seqOf p.1) p.2 := rfl
@[simp] theorem seqOf_list {ds} : seqOf (.list ds) = some ds := rfl
@[simp] theorem seqOf_tuple {ds} : seqOf (.tuple ds) = some ds := rfl
@[simp] theorem iRng_s : iRng as ρ W = (as ρ W).bind fun p => ofO (rngOf p.1) p.2 := rfl
@[simp] theorem iEnum_s : iEnum' as ρ W = (as ρ W).bind fun p => ofO (enumOf p.1) p.2 := rfl
@[simp] theorem iZip_s : iZip' as ρ W = (as ρ W).bind fun p => ofO (zipOf p.1) p.2 := rfl
@[simp] theorem enumOf_list {ds} : enumOf [.list ds] = some (enumD 0 ds) := rfl
@[simp] theorem enumOf_tuple {ds} : enumOf [.tuple ds] = some (enumD 0 ds) := rfl
@[simp] theorem zipOf_ll {a b} : zipOf [.list a, .list b] = some (zipD a b) := rfl
@[simp] theorem zipOf_lt {a b} : zipOf [.list a, .tuple b] = some (zipD a b) := rfl
@[simp] theorem zipOf_tl {a b} : zipOf [.tuple a, .list b] = some (zipD a b) := rfl
@[simp] theorem zipOf_tt {a b} : zipOf [.tuple a, .tuple b] = some (zipD a b) := rfl
@[simp] theorem gN_s {d : Dt} : gN i d ρ = if i < ρ.length then some (ρ.set i (some (.d d))) else none := rfl
@[simp] theorem gsNil_s : gsNil [] ρ = some ρ := rfl
@[simp] theorem gsCons_s {g : SG} {gs : SGs} {d : Dt} {ds} : gsCons g gs (d :: ds) ρ = (g d ρ).bind (gs ds) := rfl
@[simp] theorem gTu_s {gs : SGs} {ds : List Dt} : gTu n gs (.tuple ds) ρ = if ds.length = n then gs ds ρ else none := rfl
@[simp] theorem lComp_s {it : SA} {g : SG} {c : SB} {vs} : lComp it g c e vs ρ W = (it ρ W).bind fun p => if p.1.length ≤ 100000 ∧ wipeOk ρ vs = true then cL g c e (wipeS ρ vs) p.1 p.2 else .bad := rfl
@[simp] theorem bYes_s : bYes ρ W = .ok (true, W) := rfl
@[simp] theorem cL_nil {g : SG} {c : SB} : cL g c e ρ [] W = .ok ([], W) := rfl
@[simp] theorem wipeS_nil : wipeS ρ [] = ρ := rfl
@[simp] theorem wipeS_cons {v vs} : wipeS ρ (v :: vs) = (wipeS ρ vs).set v none := rfl
@[simp] theorem sPass_s : sPass ρ W = .nx ρ W := rfl
@[simp] theorem sSeq_s {a b : SS} : sSeq a b ρ W = (match a ρ W with | .nx ρ1 W1 => b ρ1 W1 | r => r) := rfl
@[simp] theorem sExpr_s : sExpr e ρ W = rOut (e ρ W) fun _ W1 => .nx ρ W1 := rfl
@[simp] theorem sRet_s : sRet e ρ W = rOut (e ρ W) fun d W1 => .rt (.d d) W1 := rfl
@[simp] theorem sRetL_s : sRetL f ρ W = rOut (f ρ W) fun ds W1 => .rt (.own ds) W1 := rfl
@[simp] theorem sAsg_s : sAsg i e ρ W = rOut (e ρ W) fun d W1 => if i < ρ.length then .nx (ρ.set i (some (.d d))) W1 else .bad := rfl
@[simp] theorem sAsgG_s {g : SG} : sAsgG g e ρ W = rOut (e ρ W) fun d W1 => match g d ρ with | some ρ' => .nx ρ' W1 | none => .bad := rfl
@[simp] theorem sOwn_s : sOwn i f ρ W = rOut (f ρ W) fun ds W1 => if i < ρ.length then .nx (ρ.set i (some (.own ds))) W1 else .bad := rfl
@[simp] theorem sTown_s : sTown i f ρ W = rOut (f ρ W) fun ds W1 => if i < ρ.length ∧ W1 = none then .nx (ρ.set i (some .town)) (some ds) else .bad := rfl
@[simp] theorem sIf_s {c : SB} {a b : SS} : sIf c a b ρ W = rOut (c ρ W) fun k W1 => if k = true then a ρ W1 else b ρ W1 := rfl
@[simp] theorem sFor_s {it : SA} {g : SG} {body : SS} : sFor it g body ρ W = rOut (it ρ W) fun ds W1 => fL g body ds ρ W1 := rfl
@[simp] theorem fL_nil {g : SG} {body : SS} : fL g body [] ρ W = .nx ρ W := rfl
@[simp] theorem fL_cons {g : SG} {body : SS} {d ds} : fL g body (d :: ds) ρ W = (match g d ρ with | none => .bad | some ρ1 => match body ρ1 W with | .nx ρ2 W2 => fL g body ds ρ2 W2 | r => r) := rfl
@[simp] theorem sApp_s : sApp i e ρ W = (match ρ[i]? with | some (some (.own xs)) => rOut (e ρ W) fun d W1 => if xs.length < 100000 then .nx (ρ.set i (some (.own (xs ++ [d])))) W1 else .bad | _ => .bad) := rfl
@[simp] theorem sExt_s : sExt i f ρ W = (match ρ[i]? with | some (some (.own xs)) => rOut (f ρ W) fun ds W1 => if xs.length + ds.length ≤ 100000 then .nx (ρ.set i (some (.own (xs ++ ds)))) W1 else .bad | _ => .bad) := rfl
@[simp] theorem sSet_s : sSet i k e ρ W = (match ρ[i]? with | some (some (.own xs)) => rOut (e ρ W) fun d W1 => rOut (k ρ W1) fun kd W2 => nxO i (setD xs kd d) ρ W2 | _ => .bad) := rfl
@[simp] theorem sSetT_s : sSetT i k e ρ W = (match ρ[i]? with | some (some .town) => rOut (e ρ W) fun d W1 => rOut (k ρ W1) fun kd W2 => (match W2 with | some ws => nxT (setD ws kd d) ρ | none => .bad) | _ => .bad) := rfl
@[simp] theorem nxO_some {ys} : nxO i (some ys) ρ W = .nx (ρ.set i (some (.own ys))) W := rfl
@[simp] theorem nxT_some {ys} : nxT (some ys) ρ = .nx ρ (some ys) := rfl
@[simp] theorem eIxT_s : eIxT i k ρ W = (match ρ[i]? with | some (some .town) => (k ρ W).bind fun p => (match p.2 with | some ws => ofO (ixD (.list ws) p.1) p.2 | none => .bad) | _ => .bad) := rfl
@[simp] theorem mNil_s : mNil ρ W = .ok ([], W) := rfl
@[simp] theorem mD_s {m : SM} : mD e m ρ W = (e ρ W).bind fun p => (m ρ p.2).bind fun q => .ok (.d p.1 :: q.1, q.2) := rfl
@[simp] theorem mL_s {m : SM} : mL f m ρ W = (f ρ W).bind fun p => (m ρ p.2).bind fun q => .ok (.own p.1 :: q.1, q.2) := rfl
@[simp] theorem mK_s {f : SK} {m : SM} : mK f m ρ W = (f ρ W).bind fun p => (m ρ p.2).bind fun q => .ok (.dk p.1 :: q.1, q.2) := rfl
@[simp] theorem setM_nil : setM [] [] ρ = some ρ := rfl
@[simp] theorem setM_cons {is sv svs} : setM (i :: is) (sv :: svs) ρ = if i < ρ.length then setM is svs (ρ.set i (some sv)) else none := rfl
@[simp] theorem sPar_s {is} {m : SM} : sPar is m ρ W = rOut (m ρ W) fun svs W1 => match setM is svs ρ with | some ρ' => .nx ρ' W1 | none => .bad := rfl
@[simp] theorem kDict_s : kDict e ρ W = (e ρ W).bind fun p => ofO (dictOf p.1) p.2 := rfl
@[simp] theorem eDin_s : eDin i k ρ W = (k ρ W).bind fun p => ofO ((inDk ρ i p.1).map PyData.bool) p.2 := rfl
@[simp] theorem eDnin_s : eDnin i k ρ W = (k ρ W).bind fun p => ofO ((inDk ρ i p.1).map fun b => PyData.bool (!b)) p.2 := rfl
@[simp] theorem eDget_s : eDget i k ρ W = (match dkAt ρ i with | some kvs => (k ρ W).bind fun p => ofO (getDk kvs p.1) p.2 | none => .bad) := rfl
@[simp] theorem iDk_s : iDk i ρ W = (match ρ[i]? with | some (some (.fd kvs)) => .ok (kvs.map (fun kv => PyData.int kv.1), W) | _ => .bad) := rfl
@[simp] theorem lLock_s : lLock i f ρ W = (match ρ[i]? with | some (some (.dk kvs)) => nox (f (ρ.set i (some (.fd kvs))) W) | _ => .bad) := rfl
@[simp] theorem sDk_s {f : SK} : sDk i f ρ W = rOut (f ρ W) fun kvs W1 => if i < ρ.length then .nx (ρ.set i (some (.dk kvs))) W1 else .bad := rfl
@[simp] theorem dkAt_s : dkAt ρ i = (match ρ[i]? with | some (some (.dk kvs)) => some kvs | some (some (.fd kvs)) => some kvs | _ => none) := rfl
@[simp] theorem inDk_s {d : Dt} : inDk ρ i d = (match dkAt ρ i, d with | some kvs, .int k => some (valD kvs k).isSome | _, _ => none) := rfl
@[simp] theorem getDk_int {kvs} {k : Int} : getDk kvs (.int k) = valD kvs k := rfl
@[simp] theorem frzS_s : frzS i ρ = (match ρ[i]? with | some (some (.own xs)) => ρ.set i (some (.d (.list xs))) | _ => ρ) := rfl
@[simp] theorem runP_s {m : Nat} {B : SS} {ds : List Dt} : runP m B ds = (match B (start0 m ds) none with | .rt (.d x) _ => .ok x | .nx _ _ => .ok .none | .exc c => .exc c | _ => .bad) := rfl
@[simp] theorem runT_s {m : Nat} {B : SS} {ds ws : List Dt} : runT m B ds ws = (match B (startT m ds) (some ws) with | .rt (.d x) (some ws') => .ok (x, ws') | .nx _ (some ws') => .ok (.none, ws') | .exc c => .exc c | _ => .bad) := rfl
@[simp] theorem runL_s {m : Nat} {B : SS} {ds : List Dt} : runL m B ds = (match B (start0 m ds) none with | .rt (.own x) _ => .ok x | .exc c => .exc c | _ => .bad) := rfl
@[simp] theorem addD_i {a b : Int} : addD (.int a) (.int b) = some (.int (a + b)) := rfl
@[simp] theorem subD_i {a b : Int} : subD (.int a) (.int b) = some (.int (a - b)) := rfl
@[simp] theorem mulD_i {a b : Int} : mulD (.int a) (.int b) = if mulOk a b then some (.int (a * b)) else none := rfl
@[simp] theorem fdivD_i {a b : Int} : fdivD (.int a) (.int b) = if 0 < b ∧ b.natAbs.log2 < 9000 then some (.int (a / b)) else none := rfl
@[simp] theorem modD_i {a b : Int} : modD (.int a) (.int b) = if 0 < b then some (.int (a % b)) else none := rfl
@[simp] theorem negD_i {a : Int} : negD (.int a) = some (.int (-a)) := rfl
@[simp] theorem cmpD_i {p} {a b : Int} : cmpD p (.int a) (.int b) = some (.bool (p a b)) := rfl
@[simp] theorem ixD_t {ds : List Dt} {i : Int} : ixD (.tuple ds) (.int i) = atI ds i := rfl
@[simp] theorem ixD_l {ds : List Dt} {i : Int} : ixD (.list ds) (.int i) = atI ds i := rfl
@[simp] theorem atI_0 {α : Type} {x : α} {xs : List α} : atI (x :: xs) 0 = some x := by
  unfold atI ixN
  rw [if_pos (by omega), if_pos (by simp only [List.length_cons]; omega)]
  rfl
@[simp] theorem atI_1 {α : Type} {x y : α} {xs : List α} : atI (x :: y :: xs) 1 = some y := by
  unfold atI ixN
  rw [if_pos (by omega), if_pos (by simp only [List.length_cons]; omega)]
  rfl
@[simp] theorem atI_2 {α : Type} {x y z : α} {xs : List α} : atI (x :: y :: z :: xs) 2 = some z := by
  unfold atI ixN
  rw [if_pos (by omega), if_pos (by simp only [List.length_cons]; omega)]
  rfl
theorem atI_nat {α : Type} {xs : List α} {n : Nat} (h : n < xs.length) : atI xs (n : Int) = xs[n]? := by
  unfold atI ixN
  rw [if_pos (by omega), if_pos (by omega)]
  rfl
/-- the last item -/
theorem atI_last {α : Type} {xs : List α} {x : α} : atI (xs ++ [x]) (-1) = some x := by
  unfold atI ixN
  rw [if_neg (by omega), if_pos (by simp only [List.length_append, List.length_cons, List.length_nil]; omega)]
  have : ((-1 : Int) + ((xs ++ [x]).length : Int)).toNat = xs.length := by simp only [List.length_append, List.length_cons, List.length_nil]; omega
  rw [this]
  simp
@[simp] theorem absD_i {a : Int} : absD [.int a] = some (.int a.natAbs) := by
  show some (PyData.int (if a < 0 then -a else a)) = _
  congr 2
  split <;> omega
@[simp] theorem start0_s {m : Nat} {ds : List Dt} : start0 m ds = ds.map (fun x => some (.d x)) ++ List.replicate (m - ds.length) none := rfl
@[simp] theorem startT_s {m : Nat} {d : Dt} {ds : List Dt} : startT m (d :: ds) = some (.d d) :: some .town :: (ds.map (fun x => some (.d x)) ++ List.replicate (m - (ds.length + 2)) none) := rfl
end
end Sx

namespace Sx
open PySem PySem.Spec PyProof.Rows L2
/-! ### numbers -/
theorem log2_le {n k : Nat} (h : n < 2 ^ k) : n.log2 ≤ k := by
  by_cases h0 : n = 0
  · subst h0; exact Nat.le_trans (by decide) (Nat.zero_le k)
  · exact Nat.le_of_lt ((Nat.log2_lt h0).mpr h)
theorem mulOk_of {a b : Int} {j k : Nat} (ha : a.natAbs < 2 ^ j) (hb : b.natAbs < 2 ^ k) (h : j + k < 1000000) : mulOk a b = true := by
  unfold mulOk
  have := log2_le ha
  have := log2_le hb
  exact decide_eq_true (by omega)
@[simp] theorem shaped_int {i : Int} : SeqAt.shaped (.int i) = true := by rfl
@[simp] theorem shaped_none : SeqAt.shaped .none = true := by rfl
@[simp] theorem eqD_i {a b : Int} : eqD (.int a) (.int b) = some (.bool (a == b)) := by
  unfold eqD; rw [shaped_int, shaped_int]; rfl
@[simp] theorem neD_i {a b : Int} : neD (.int a) (.int b) = some (.bool (!(a == b))) := by
  unfold neD; rw [shaped_int, shaped_int]; rfl
abbrev gB : SB := bOf (eBin neD (eVar 1) (eC (.int 0)))
abbrev gS : SS := sPar [0, 1] (mD (eVar 1) (mD (eBin modD (eVar 0) (eVar 1)) mNil))
theorem gcd_loop : ∀ (b n : Nat) (a : Int), b ≤ n → ∃ g : Int, g.natAbs = Nat.gcd a.natAbs b ∧ wL gB gS (n + 1) [some (.d (.int a)), some (.d (.int b))] none = .nx [some (.d (.int g)), some (.d (.int 0))] none := by
  intro b
  induction b using Nat.strongRecOn with
  | _ b ih =>
    intro n a hb
    by_cases h0 : b = 0
    · subst h0
      exact ⟨a, by simp, by unfold wL; simp⟩
    · have hpos : (0 : Int) < (b : Int) := by omega
      have hlt : (a % (b : Int)).toNat < b := by
        have h1 := Int.emod_lt_of_pos a hpos
        have h2 := Int.emod_nonneg a (show (b : Int) ≠ 0 by omega)
        omega
      obtain ⟨m, rfl⟩ : ∃ m, n = m + 1 := ⟨n - 1, by omega⟩
      obtain ⟨g, hg, hw⟩ := ih _ hlt m (b : Int) (by omega)
      refine ⟨g, ?_, ?_⟩
      · rw [hg, Int.natAbs_natCast]
        have e : (a % (b : Int)).toNat = (a % (b : Int)).natAbs := by
          have h2 := Int.emod_nonneg a (show (b : Int) ≠ 0 by omega)
          omega
        rw [e, Nat.gcd_comm a.natAbs b]
        have := (Int.gcd_right_eq_iff (a := (b : Int)) (b := a % (b : Int)) (b' := a)).mpr fun c hc => by
          rw [Int.emod_def]
          constructor
          · intro h
            have := Int.dvd_add h (Int.dvd_trans hc (Int.dvd_mul_right (b : Int) (a / (b : Int))))
            rwa [Int.sub_add_cancel] at this
          · intro h
            exact Int.dvd_sub h (Int.dvd_trans hc (Int.dvd_mul_right _ _))
        unfold Int.gcd at this
        rw [Int.natAbs_natCast] at this
        exact this
      · have e : ((a % (b : Int)).toNat : Int) = a % (b : Int) := Int.toNat_of_nonneg (Int.emod_nonneg a (show (b : Int) ≠ 0 by omega))
        rw [e] at hw
        rw [← hw]
        conv => lhs; unfold wL
        simp [h0, show 0 < b by omega]
theorem divisor_ok (a : Int) (b : Nat) : F_divisor [.int a, .int b] = .ok (.int (Nat.gcd a.natAbs b)) := by
  obtain ⟨g, hg, hw⟩ := gcd_loop b b a (Nat.le_refl _)
  have hw' : sWhile (fuelI 1) gB gS [some (.d (.int a)), some (.d (.int b))] none = .nx [some (.d (.int g)), some (.d (.int 0))] none := by
    unfold sWhile fuelI
    simpa using hw
  have e : B_divisor (start0 2 [.int a, .int b]) none = .rt (.d (.int g.natAbs)) none := by
    show sSeq (sWhile (fuelI 1) gB gS) (sRet (eCB absD (aCons (eVar 0) aNil))) [some (.d (.int a)), some (.d (.int b))] none = _
    rw [sSeq_s, hw']
    simp
  unfold F_divisor runP
  rw [e, hg]
/-! fractions -/
def fr (q : Rat) : Dt := .tuple [.int q.num, .int q.den]
/-- few bits -/
def Bd (k : Nat) (q : Rat) : Prop := q.num.natAbs < 2 ^ k ∧ q.den < 2 ^ k
theorem Bd.mono {j k : Nat} {q : Rat} (h : Bd j q) (hk : j ≤ k) : Bd k q :=
  ⟨Nat.lt_of_lt_of_le h.1 (Nat.pow_le_pow_right (by decide) hk), Nat.lt_of_lt_of_le h.2 (Nat.pow_le_pow_right (by decide) hk)⟩
theorem mkRat_bd {n : Int} {d k : Nat} (hn : n.natAbs < 2 ^ k) (hd : d < 2 ^ k) (h0 : d ≠ 0) : Bd k (mkRat n d) := by
  constructor
  · rw [Rat.num_mkRat, if_neg h0]
    refine Nat.lt_of_le_of_lt ?_ hn
    rw [Int.natAbs_ediv_of_dvd (by
      have := Nat.gcd_dvd_right d n.natAbs
      exact Int.ofNat_dvd_left.mpr this)]
    exact Nat.div_le_self _ _
  · rw [Rat.den_mkRat, if_neg h0]
    exact Nat.lt_of_le_of_lt (Nat.div_le_self _ _) hd
theorem mul_lt_pow {a b j k : Nat} (ha : a < 2 ^ j) (hb : b < 2 ^ k) : a * b < 2 ^ (j + k) := by
  rw [Nat.pow_add]
  exact Nat.mul_lt_mul'' ha hb
theorem Bd.neg {k : Nat} {q : Rat} (h : Bd k q) : Bd k (-q) := ⟨by rw [Rat.neg_num, Int.natAbs_neg]; exact h.1, by rw [Rat.neg_den]; exact h.2⟩
theorem Bd.add {j k : Nat} {a b : Rat} (ha : Bd j a) (hb : Bd k b) : Bd (j + k + 1) (a + b) := by
  rw [Rat.add_def']
  have h1 := mul_lt_pow ha.1 hb.2
  have h2 := mul_lt_pow hb.1 ha.2
  have h3 := mul_lt_pow ha.2 hb.2
  refine mkRat_bd ?_ (Nat.lt_of_lt_of_le h3 (Nat.pow_le_pow_right (by decide) (by omega))) (Nat.mul_ne_zero a.den_nz b.den_nz)
  have h4 := Int.natAbs_add_le (a.num * (b.den : Int)) (b.num * (a.den : Int))
  rw [Int.natAbs_mul, Int.natAbs_mul, Int.natAbs_natCast, Int.natAbs_natCast] at h4
  rw [Nat.add_comm k j] at h2
  rw [Nat.pow_succ]
  omega
theorem Bd.mul {j k : Nat} {a b : Rat} (ha : Bd j a) (hb : Bd k b) : Bd (j + k) (a * b) := by
  rw [Rat.mul_def']
  refine mkRat_bd ?_ (mul_lt_pow ha.2 hb.2) (Nat.mul_ne_zero a.den_nz b.den_nz)
  rw [Int.natAbs_mul]
  exact mul_lt_pow ha.1 hb.1
theorem Bd.sub {j k : Nat} {a b : Rat} (ha : Bd j a) (hb : Bd k b) : Bd (j + k + 1) (a - b) := by
  rw [Rat.sub_eq_add_neg]
  exact ha.add hb.neg
theorem Bd.inv {k : Nat} {a : Rat} (ha : Bd k a) (hk : 0 < k) : Bd k a⁻¹ := by
  constructor
  · rw [Rat.num_inv, Int.natAbs_mul, Int.natAbs_natCast]
    by_cases h : a.num = 0
    · rw [h]; simp; exact Nat.two_pow_pos k
    · rw [Int.natAbs_sign_of_ne_zero h, Nat.one_mul]; exact ha.2
  · rw [Rat.den_inv]
    split
    · exact Nat.one_lt_two_pow (by omega)
    · exact ha.1
theorem Bd.div {j k : Nat} {a b : Rat} (ha : Bd j a) (hb : Bd k b) (hk : 0 < k) : Bd (j + k) (a / b) := by
  rw [Rat.div_def]
  exact ha.mul (hb.inv hk)
theorem Bd.int {k : Nat} {n : Int} (h : n.natAbs < 2 ^ k) (hk : 0 < k) : Bd k (n : Rat) := ⟨h, Nat.one_lt_two_pow (by omega)⟩
theorem Bd.nat {k n : Nat} (h : n < 2 ^ k) (hk : 0 < k) : Bd k (n : Rat) := ⟨h, Nat.one_lt_two_pow (by omega)⟩
theorem fraction_ok {a : Int} {b : Nat} (h0 : 0 < b) (hb : b < 2 ^ 9000) : F_fraction [.int a, .int b] = .ok (fr (mkRat a b)) := by
  have hg : 0 < Nat.gcd a.natAbs b := Nat.gcd_pos_of_pos_right _ h0
  have hl : (Nat.gcd a.natAbs b).log2 < 9000 := by
    rw [Nat.log2_lt (by omega)]
    exact Nat.lt_of_le_of_lt (Nat.le_of_dvd h0 (Nat.gcd_dvd_right _ _)) hb
  have hd : ((b / Nat.gcd a.natAbs b : Nat) : Int) = (b : Int) / (Nat.gcd a.natAbs b : Int) := by simp
  unfold F_fraction
  simp only [B_fraction]
  simp [divisor_ok, hg, hl, fr, Rat.num_mkRat, Rat.den_mkRat, show b ≠ 0 by omega, Nat.gcd_comm b a.natAbs]
end Sx

namespace Sx
open PySem PySem.Spec PyProof.Rows L2
theorem natAbs_lt {n m : Nat} (h : n < m) : (n : Int).natAbs < m := by rw [Int.natAbs_natCast]; exact h
theorem lt9 {n j k : Nat} (h : n < 2 ^ (j + k)) (hk : j + k ≤ 9000) : n < 2 ^ 9000 := Nat.lt_of_lt_of_le h (Nat.pow_le_pow_right (by decide) hk)
theorem mulOk_dd {a b : Rat} (ha : Bd 4000 a) (hb : Bd 4000 b) : mulOk (a.den : Int) (b.den : Int) = true := mulOk_of (j := 4000) (k := 4000) (natAbs_lt ha.2) (natAbs_lt hb.2) (by decide)
theorem mulOk_nd {a b : Rat} (ha : Bd 4000 a) (hb : Bd 4000 b) : mulOk a.num (b.den : Int) = true := mulOk_of (j := 4000) (k := 4000) ha.1 (natAbs_lt hb.2) (by decide)
theorem mulOk_dn {a b : Rat} (ha : Bd 4000 a) (hb : Bd 4000 b) : mulOk (a.den : Int) b.num = true := mulOk_of (j := 4000) (k := 4000) (natAbs_lt ha.2) hb.1 (by decide)
theorem mulOk_nn {a b : Rat} (ha : Bd 4000 a) (hb : Bd 4000 b) : mulOk a.num b.num = true := mulOk_of (j := 4000) (k := 4000) ha.1 hb.1 (by decide)
theorem den_lt {a b : Rat} (ha : Bd 4000 a) (hb : Bd 4000 b) : a.den * b.den < 2 ^ 9000 := lt9 (mul_lt_pow ha.2 hb.2) (by decide)
theorem den_pos2 {a b : Rat} : 0 < a.den * b.den := Nat.pos_of_ne_zero (Nat.mul_ne_zero a.den_nz b.den_nz)
theorem frac_dd {a b : Rat} {n : Int} (ha : Bd 4000 a) (hb : Bd 4000 b) : F_fraction [.int n, .int ((a.den : Int) * (b.den : Int))] = .ok (fr (mkRat n (a.den * b.den))) := by
  have := fraction_ok (a := n) den_pos2 (den_lt ha hb)
  rw [Int.natCast_mul] at this
  exact this
theorem plus_ok {a b : Rat} (ha : Bd 4000 a) (hb : Bd 4000 b) : F_plus [fr a, fr b] = .ok (fr (a + b)) := by
  rw [Rat.add_def']
  unfold F_plus
  simp only [B_plus]
  simp [fr, mulOk_nd ha hb, mulOk_nd hb ha, mulOk_dd ha hb, frac_dd ha hb]
theorem minus_ok {a b : Rat} (ha : Bd 4000 a) (hb : Bd 4000 b) : F_minus [fr a, fr b] = .ok (fr (a - b)) := by
  have h := plus_ok ha hb.neg
  rw [← Rat.sub_eq_add_neg] at h
  unfold F_minus
  simp only [B_minus]
  have e : fr (-b) = .tuple [.int (-b.num), .int b.den] := rfl
  rw [e] at h
  simp only [fr] at h ⊢
  simp [h]
theorem product_ok {a b : Rat} (ha : Bd 4000 a) (hb : Bd 4000 b) : F_product [fr a, fr b] = .ok (fr (a * b)) := by
  rw [Rat.mul_def']
  unfold F_product
  simp only [B_product]
  simp [fr, mulOk_nn ha hb, mulOk_dd ha hb, frac_dd ha hb]
theorem quot_eq {a b : Rat} (h : 0 < b) : a / b = mkRat (a.num * b.den) (a.den * b.num.natAbs) := by
  have hb : 0 < b.num := by
    have := (Rat.lt_iff 0 b).mp h
    simpa using this
  have e : a / b = Rat.divInt (a.num * (b.den : Int)) ((a.den : Int) * b.num) := by
    conv => lhs; rw [← Rat.num_divInt_den a, ← Rat.num_divInt_den b]
    rw [Rat.div_def, Rat.inv_divInt, Rat.divInt_mul_divInt]
  rw [e]
  have e2 : (a.den : Int) * b.num = ((a.den * b.num.natAbs : Nat) : Int) := by
    rw [Int.natCast_mul]
    congr 1
    omega
  rw [e2, Rat.divInt_ofNat]
theorem quotient_ok {a b : Rat} (ha : Bd 4000 a) (hb : Bd 4000 b) (h : 0 < b) : F_quotient [fr a, fr b] = .ok (fr (a / b)) := by
  have hbn : 0 < b.num := by
    have := (Rat.lt_iff 0 b).mp h
    simpa using this
  have hp : 0 < a.den * b.num.natAbs := Nat.mul_pos (Nat.pos_of_ne_zero a.den_nz) (by omega)
  have hl : a.den * b.num.natAbs < 2 ^ 9000 := lt9 (mul_lt_pow ha.2 hb.1) (by decide)
  have := fraction_ok (a := a.num * (b.den : Int)) hp hl
  rw [← quot_eq h, Int.natCast_mul, show ((b.num.natAbs : Nat) : Int) = b.num by omega] at this
  unfold F_quotient
  simp only [B_quotient]
  have e : fr a = .tuple [.int a.num, .int a.den] := rfl
  have e2 : fr b = .tuple [.int b.num, .int b.den] := rfl
  rw [e, e2]
  simp [mulOk_nd ha hb, mulOk_dn ha hb, this]
theorem is_less_ok {a b : Rat} (ha : Bd 4000 a) (hb : Bd 4000 b) : F_is_less [fr a, fr b] = .ok (.bool (decide (a < b))) := by
  unfold F_is_less
  simp only [B_is_less]
  simp [fr, mulOk_nd ha hb, mulOk_nd hb ha, Rat.lt_iff]
theorem lesser_ok {a b : Rat} (ha : Bd 4000 a) (hb : Bd 4000 b) : F_lesser [fr a, fr b] = .ok (fr (if b < a then b else a)) := by
  unfold F_lesser
  simp only [B_lesser]
  simp [is_less_ok hb ha]
  by_cases h : b < a <;> simp [h]
/-! the law's own -/
abbrev hB : SB := bOf (eBin gtD (eVar 3) (eC (.int 0)))
abbrev hS : SS := sPar [2, 3] (mD (eVar 3) (mD (eBin modD (eVar 2) (eVar 3)) mNil))
theorem lgcd_loop {x y : Option SV} : ∀ (b n a : Nat), b ≤ n → wL hB hS (n + 1) [x, y, some (.d (.int a)), some (.d (.int b))] none = .nx [x, y, some (.d (.int (Nat.gcd a b))), some (.d (.int 0))] none := by
  intro b
  induction b using Nat.strongRecOn with
  | _ b ih =>
    intro n a hb
    by_cases h0 : b = 0
    · subst h0
      unfold wL; simp
    · have hlt : a % b < b := Nat.mod_lt _ (by omega)
      obtain ⟨m, rfl⟩ : ∃ m, n = m + 1 := ⟨n - 1, by omega⟩
      have hw := ih _ hlt m b (by omega)
      have e : Nat.gcd b (a % b) = Nat.gcd a b := by rw [Nat.gcd_comm b, ← Nat.gcd_rec, Nat.gcd_comm]
      rw [e] at hw
      rw [← hw]
      conv => lhs; unfold wL
      simp [show 0 < b by omega]
theorem lfrac_ok {a : Int} {b : Nat} (h0 : 0 < b) (hb : b < 2 ^ 9000) : F__law_frac [.int a, .int b] = .ok (fr (mkRat a b)) := by
  have hg : 0 < Nat.gcd b a.natAbs := Nat.gcd_pos_of_pos_left _ h0
  have hl : (Nat.gcd b a.natAbs).log2 < 9000 := by
    rw [Nat.log2_lt (by omega)]
    exact Nat.lt_of_le_of_lt (Nat.le_of_dvd h0 (Nat.gcd_dvd_left _ _)) hb
  have hw : sWhile (fuelI 3) hB hS [some (.d (.int a)), some (.d (.int b)), some (.d (.int b)), some (.d (.int a.natAbs))] none = .nx [some (.d (.int a)), some (.d (.int b)), some (.d (.int (Nat.gcd b a.natAbs))), some (.d (.int 0))] none := by
    unfold sWhile fuelI
    have := lgcd_loop (x := some (.d (.int a))) (y := some (.d (.int b))) a.natAbs a.natAbs b (Nat.le_refl _)
    simpa using this
  have e : B__law_frac (start0 4 [.int a, .int b]) none = .rt (.d (fr (mkRat a b))) none := by
    show sSeq (sPar [2, 3] (mD (eVar 1) (mD (eCB absD (aCons (eVar 0) aNil)) mNil))) (sSeq (sWhile (fuelI 3) hB hS) (sRet (eTup (aCons (eBin fdivD (eVar 0) (eVar 2)) (aCons (eBin fdivD (eVar 1) (eVar 2)) aNil))))) [some (.d (.int a)), some (.d (.int b)), none, none] none = _
    have e1 : sPar [2, 3] (mD (eVar 1) (mD (eCB absD (aCons (eVar 0) aNil)) mNil)) [some (.d (.int a)), some (.d (.int b)), none, none] none = .nx [some (.d (.int a)), some (.d (.int b)), some (.d (.int b)), some (.d (.int a.natAbs))] none := by simp
    rw [sSeq_s, e1]
    simp only
    rw [sSeq_s, hw]
    simp [hg, hl, fr, Rat.num_mkRat, Rat.den_mkRat, show b ≠ 0 by omega]
  unfold F__law_frac runP
  rw [e]
theorem lfrac_dd {a b : Rat} {n : Int} (ha : Bd 4000 a) (hb : Bd 4000 b) : F__law_frac [.int n, .int ((a.den : Int) * (b.den : Int))] = .ok (fr (mkRat n (a.den * b.den))) := by
  have := lfrac_ok (a := n) den_pos2 (den_lt ha hb)
  rw [Int.natCast_mul] at this
  exact this
theorem lplus_ok {a b : Rat} (ha : Bd 4000 a) (hb : Bd 4000 b) : F__law_plus [fr a, fr b] = .ok (fr (a + b)) := by
  rw [Rat.add_def']
  unfold F__law_plus
  simp only [B__law_plus]
  simp [fr, mulOk_nd ha hb, mulOk_nd hb ha, mulOk_dd ha hb, lfrac_dd ha hb]
theorem lless_ok {a b : Rat} (ha : Bd 4000 a) (hb : Bd 4000 b) : F__law_less [fr a, fr b] = .ok (fr (a - b)) := by
  rw [Rat.sub_def']
  unfold F__law_less
  simp only [B__law_less]
  simp [fr, mulOk_nd ha hb, mulOk_nd hb ha, mulOk_dd ha hb, lfrac_dd ha hb]
theorem ltimes_ok {a b : Rat} (ha : Bd 4000 a) (hb : Bd 4000 b) : F__law_times [fr a, fr b] = .ok (fr (a * b)) := by
  rw [Rat.mul_def']
  unfold F__law_times
  simp only [B__law_times]
  simp [fr, mulOk_nn ha hb, mulOk_dd ha hb, lfrac_dd ha hb]
theorem lover_ok {a b : Rat} (ha : Bd 4000 a) (hb : Bd 4000 b) (h : 0 < b) : F__law_over [fr a, fr b] = .ok (fr (a / b)) := by
  have hbn : 0 < b.num := by
    have := (Rat.lt_iff 0 b).mp h
    simpa using this
  have hp : 0 < a.den * b.num.natAbs := Nat.mul_pos (Nat.pos_of_ne_zero a.den_nz) (by omega)
  have hl : a.den * b.num.natAbs < 2 ^ 9000 := lt9 (mul_lt_pow ha.2 hb.1) (by decide)
  have := lfrac_ok (a := a.num * (b.den : Int)) hp hl
  rw [← quot_eq h, Int.natCast_mul, show ((b.num.natAbs : Nat) : Int) = b.num by omega] at this
  unfold F__law_over
  simp only [B__law_over]
  have e : fr a = .tuple [.int a.num, .int a.den] := rfl
  have e2 : fr b = .tuple [.int b.num, .int b.den] := rfl
  rw [e, e2]
  simp [mulOk_nd ha hb, mulOk_dn ha hb, this]
theorem lbelow_ok {a b : Rat} (ha : Bd 4000 a) (hb : Bd 4000 b) : F__law_below [fr a, fr b] = .ok (.bool (decide (a < b))) := by
  unfold F__law_below
  simp only [B__law_below]
  simp [fr, mulOk_nd ha hb, mulOk_nd hb ha, Rat.lt_iff]
end Sx

/-! plain mathematics: pieces of rungs, levels that shares fill -/
namespace Mx
def lk {β : Type} : List (Nat × β) → Nat → Option β
  | [], _ => none
  | (k, v) :: r, h => if k = h then some v else lk r h
abbrev Dis {β : Type} (A : List (Nat × β)) : Prop := A.Pairwise (fun a b => a.1 ≠ b.1)
section
variable {β : Type}
theorem lk_mem : ∀ {A : List (Nat × β)} {h : Nat} {v : β}, lk A h = some v → (h, v) ∈ A
  | [], _, _, e => by cases e
  | (k, u) :: r, h, v, e => by
    unfold lk at e
    split at e
    · rename_i hk; cases e; subst hk; exact List.mem_cons_self ..
    · exact List.mem_cons_of_mem _ (lk_mem e)
theorem lk_none : ∀ {A : List (Nat × β)} {h : Nat}, lk A h = none ↔ ∀ p ∈ A, p.1 ≠ h
  | [], _ => by simp [lk]
  | (k, u) :: r, h => by
    unfold lk
    by_cases hk : k = h
    · simp [hk]
    · rw [if_neg hk, lk_none]; simp [hk]
theorem mem_lk : ∀ {A : List (Nat × β)} {p : Nat × β}, Dis A → p ∈ A → lk A p.1 = some p.2
  | [], _, _, h => by cases h
  | (k, u) :: r, p, d, h => by
    have d' := List.pairwise_cons.mp d
    unfold lk
    rcases List.mem_cons.mp h with e | e
    · subst e; simp
    · rw [if_neg (d'.1 p e)]; exact mem_lk d'.2 e
theorem lk_filter {A : List (Nat × β)} (d : Dis A) (q : Nat × β → Bool) (h : Nat) : lk (A.filter q) h = (lk A h).bind fun v => if q (h, v) then some v else none := by
  cases e : lk A h with
  | none =>
    show lk (A.filter q) h = none
    rw [lk_none] at e ⊢
    exact fun p hp => e p (List.mem_filter.mp hp).1
  | some v =>
    have hm := lk_mem e
    show _ = if q (h, v) = true then some v else none
    by_cases hq : q (h, v) = true
    · rw [if_pos hq]
      exact mem_lk (p := (h, v)) (List.Pairwise.filter _ d) (List.mem_filter.mpr ⟨hm, hq⟩)
    · rw [if_neg hq, lk_none]
      intro p hp e2
      have h1 := List.mem_filter.mp hp
      have h2 := mem_lk d h1.1
      rw [e2, e] at h2
      cases h2
      apply hq
      have : p = (h, p.2) := by rw [← e2]
      rw [← this]
      exact h1.2
theorem lk_map {γ : Type} (f : Nat → β → γ) : ∀ (A : List (Nat × β)) (h : Nat), lk (A.map fun p => (p.1, f p.1 p.2)) h = (lk A h).map (f h)
  | [], _ => rfl
  | (k, u) :: r, h => by
    show (if k = h then some (f k u) else lk (r.map _) h) = (if k = h then some u else lk r h).map (f h)
    by_cases hk : k = h
    · rw [if_pos hk, if_pos hk, hk]; rfl
    · rw [if_neg hk, if_neg hk]; exact lk_map f r h
theorem dis_map {γ : Type} (f : Nat → β → γ) {A : List (Nat × β)} (d : Dis A) : Dis (A.map fun p => (p.1, f p.1 p.2)) := by
  unfold Dis
  rw [List.pairwise_map]
  exact d
end
/-! sums -/
def sm (A : List (Nat × Nat)) (f : Nat → Rat) : Rat := (A.map fun p => f p.1).sum
def wsum (A : List (Nat × Nat)) : Nat := (A.map (·.2)).sum
theorem sm_nil (f) : sm [] f = 0 := rfl
theorem sm_cons (p A f) : sm (p :: A) f = f p.1 + sm A f := by unfold sm; rw [List.map_cons, List.sum_cons]
theorem sm_congr {A : List (Nat × Nat)} {f g : Nat → Rat} (h : ∀ p ∈ A, f p.1 = g p.1) : sm A f = sm A g := by
  induction A with
  | nil => rfl
  | cons p A ih => rw [sm_cons, sm_cons, h p (by simp), ih fun q hq => h q (List.mem_cons_of_mem _ hq)]
theorem sm_add {A : List (Nat × Nat)} {f g : Nat → Rat} : sm A (fun h => f h + g h) = sm A f + sm A g := by
  induction A with
  | nil => rw [sm_nil, sm_nil, sm_nil]; grind
  | cons p A ih => rw [sm_cons, sm_cons, sm_cons, ih]; grind
theorem sm_mul {A : List (Nat × Nat)} {f : Nat → Rat} {c : Rat} : sm A (fun h => f h * c) = sm A f * c := by
  induction A with
  | nil => rw [sm_nil, sm_nil]; grind
  | cons p A ih => rw [sm_cons, sm_cons, ih]; grind
theorem sm_le {A : List (Nat × Nat)} {f g : Nat → Rat} (h : ∀ p ∈ A, f p.1 ≤ g p.1) : sm A f ≤ sm A g := by
  induction A with
  | nil => rw [sm_nil, sm_nil]; exact Rat.le_refl
  | cons p A ih =>
    rw [sm_cons, sm_cons]
    have h1 := h p (by simp)
    have h2 := ih fun q hq => h q (List.mem_cons_of_mem _ hq)
    grind
theorem sm_eq_of_le {A : List (Nat × Nat)} {f g : Nat → Rat} (h : ∀ p ∈ A, f p.1 ≤ g p.1) (e : sm A g ≤ sm A f) : ∀ p ∈ A, f p.1 = g p.1 := by
  induction A with
  | nil => intro p hp; cases hp
  | cons q A ih =>
    rw [sm_cons, sm_cons] at e
    have h1 := h q (by simp)
    have h2 := sm_le fun r hr => h r (List.mem_cons_of_mem _ hr)
    intro p hp
    rcases List.mem_cons.mp hp with z | z
    · subst z; grind
    · exact ih (fun r hr => h r (List.mem_cons_of_mem _ hr)) (by grind) p z
theorem sm_filter {A : List (Nat × Nat)} {f : Nat → Rat} {q : Nat × Nat → Bool} (h : ∀ p ∈ A, q p = false → f p.1 = 0) : sm (A.filter q) f = sm A f := by
  induction A with
  | nil => rfl
  | cons p A ih =>
    have ih := ih fun r hr => h r (List.mem_cons_of_mem _ hr)
    cases hq : q p with
    | true => rw [List.filter_cons_of_pos hq, sm_cons, sm_cons, ih]
    | false => rw [List.filter_cons_of_neg (by simp [hq]), ih, sm_cons, h p (by simp) hq]; grind
theorem wsum_cons (p : Nat × Nat) (A) : wsum (p :: A) = p.2 + wsum A := by unfold wsum; rw [List.map_cons, List.sum_cons]
theorem wsum_pos {A : List (Nat × Nat)} (hw : ∀ p ∈ A, 0 < p.2) (h : A ≠ []) : 0 < wsum A := by
  cases A with
  | nil => exact absurd rfl h
  | cons p A => rw [wsum_cons]; have := hw p (by simp); omega
/-! rates, levels, pieces -/
def rt (A : List (Nat × Nat)) (W : Rat) (h : Nat) : Rat := match lk A h with
  | some w => (w : Rat) / W
  | none => 0
def wv (A : List (Nat × Nat)) (c : Rat) (h : Nat) : Rat := match lk A h with
  | some w => (w : Rat) * c
  | none => 0
theorem wv_mem {A : List (Nat × Nat)} {c : Rat} {p : Nat × Nat} (d : Dis A) (h : p ∈ A) : wv A c p.1 = (p.2 : Rat) * c := by unfold wv; rw [mem_lk d h]
theorem sm_w {A : List (Nat × Nat)} (d : Dis A) (c : Rat) : ∀ {B : List (Nat × Nat)}, (∀ p ∈ B, p ∈ A) → sm B (wv A c) = (wsum B : Rat) * c
  | [], _ => by rw [sm_nil]; show (0 : Rat) = ((0 : Nat) : Rat) * c; grind
  | p :: B, h => by
    rw [sm_cons, sm_w d c (fun q hq => h q (List.mem_cons_of_mem _ hq)), wv_mem d (h p (by simp)), wsum_cons, Rat.natCast_add]
    grind
theorem sm_rt {A : List (Nat × Nat)} (d : Dis A) {W : Rat} (hW : W = (wsum A : Rat)) (h0 : 0 < W) : sm A (rt A W) = 1 := by
  have e : rt A W = wv A W⁻¹ := by
    funext h; unfold rt wv; cases lk A h <;> rfl
  rw [e, sm_w d _ (fun _ h => h), ← hW]
  exact Rat.mul_inv_cancel W (by grind)
/-- what a holder has at a level -/
def mf (A : List (Nat × Nat)) (L : List (Nat × Rat)) (t : Rat) (h : Nat) : Rat := match lk A h with
  | none => 0
  | some w => match lk L h with
    | none => (w : Rat) * t
    | some c => if c ≤ (w : Rat) * t then c else (w : Rat) * t
structure WF (A : List (Nat × Nat)) (L : List (Nat × Rat)) (x : Rat) (f : Nat → Rat) : Prop where
  ex : ∃ t, 0 ≤ t ∧ (∀ h, f h = mf A L t h) ∧ (sm A f = x ∨ (sm A f ≤ x ∧ ∀ p ∈ A, ∃ c, lk L p.1 = some c ∧ f p.1 = c))
theorem mul_mono {w : Nat} {t t' : Rat} (h : t ≤ t') : (w : Rat) * t ≤ (w : Rat) * t' := Rat.mul_le_mul_of_nonneg_left h Rat.natCast_nonneg
theorem mf_mono {A : List (Nat × Nat)} {L : List (Nat × Rat)} {t t' : Rat} (h : t ≤ t') (k : Nat) : mf A L t k ≤ mf A L t' k := by
  unfold mf
  cases lk A k with
  | none => exact Rat.le_refl
  | some w =>
    have := mul_mono (w := w) h
    cases lk L k with
    | none => exact this
    | some c => simp only; split <;> split <;> grind
theorem WF.uniq1 {A : List (Nat × Nat)} {L : List (Nat × Rat)} {x : Rat} {f g : Nat → Rat} {t t' : Rat} (htt : t ≤ t') (hf : ∀ h, f h = mf A L t h) (hg : ∀ h, g h = mf A L t' h)
    (sf : sm A f = x ∨ (sm A f ≤ x ∧ ∀ p ∈ A, ∃ c, lk L p.1 = some c ∧ f p.1 = c)) (sg : sm A g = x ∨ (sm A g ≤ x ∧ ∀ p ∈ A, ∃ c, lk L p.1 = some c ∧ g p.1 = c)) : ∀ h, f h = g h := by
  have hle : ∀ h, f h ≤ g h := fun h => by rw [hf, hg]; exact mf_mono htt h
  have key : ∀ p ∈ A, f p.1 = g p.1 := by
    have h1 := sm_le (A := A) fun p _ => hle p.1
    rcases sf with sf | ⟨sf, cf⟩
    · refine sm_eq_of_le (fun p _ => hle p.1) ?_
      rcases sg with sg | ⟨sg, cg⟩ <;> grind
    · intro p hp
      obtain ⟨c, hc, hfc⟩ := cf p hp
      have : g p.1 ≤ c := by
        rw [hg]
        unfold mf
        cases hl : lk A p.1 with
        | none =>
          rw [lk_none] at hl
          exact absurd rfl (hl p hp)
        | some w =>
          simp only [hc]
          split <;> grind
      have := hle p.1
      grind
  intro h
  cases hl : lk A h with
  | none => rw [hf, hg]; unfold mf; rw [hl]
  | some w => exact key (h, w) (lk_mem hl)
theorem WF.uniq {A : List (Nat × Nat)} {L : List (Nat × Rat)} {x : Rat} {f g : Nat → Rat} (a : WF A L x f) (b : WF A L x g) : ∀ h, f h = g h := by
  obtain ⟨t, _, h1, h2⟩ := a.ex
  obtain ⟨t', _, h1', h2'⟩ := b.ex
  rcases Rat.le_total (a := t) (b := t') with h | h
  · exact WF.uniq1 h h1 h1' h2 h2'
  · exact fun k => (WF.uniq1 h h1' h1 h2' h2 k).symm
abbrev Pc := Option Rat × (Nat → Rat)
def ev : List Pc → Rat → Nat → Rat
  | [], _, _ => 0
  | (none, r) :: _, x, h => r h * x
  | (some l, r) :: ps, x, h => if x ≤ l then r h * x else r h * l + ev ps (x - l) h
def lenOf (L : List (Nat × Rat)) (W : Rat) : List (Nat × Nat) → Option Rat → Option Rat
  | [], o => o
  | (h, w) :: A, o => lenOf L W A (match lk L h with
    | none => o
    | some c => some (match o with
      | none => c / ((w : Rat) / W)
      | some l => if c / ((w : Rat) / W) < l then c / ((w : Rat) / W) else l))
def lowL (L : List (Nat × Rat)) (r : Nat → Rat) (l : Rat) : List (Nat × Rat) := L.map fun p => (p.1, p.2 - l * r p.1)
def keepA (L : List (Nat × Rat)) (A : List (Nat × Nat)) : List (Nat × Nat) := A.filter fun p => match lk L p.1 with
  | none => true
  | some c => decide (c ≠ 0)
def keepL (L : List (Nat × Rat)) : List (Nat × Rat) := L.filter fun p => decide (p.2 ≠ 0)
def spGo : Nat → List (Nat × Nat) → List (Nat × Rat) → List Pc
  | 0, _, _ => []
  | n + 1, A, L => if A = [] then [] else match lenOf L (wsum A : Rat) A none with
    | none => [(none, rt A (wsum A : Rat))]
    | some l => (some l, rt A (wsum A : Rat)) :: spGo n (keepA (lowL L (rt A (wsum A : Rat)) l) A) (keepL (lowL L (rt A (wsum A : Rat)) l))
structure St (A : List (Nat × Nat)) (L : List (Nat × Rat)) : Prop where
  dA : Dis A
  dL : Dis L
  wp : ∀ p ∈ A, 0 < p.2
  lp : ∀ p ∈ L, 0 < p.2
  sub : ∀ p ∈ L, ∃ q ∈ A, q.1 = p.1
theorem lenOf_spec {L : List (Nat × Rat)} {W : Rat} : ∀ {A : List (Nat × Nat)} {o r : Option Rat}, lenOf L W A o = r →
    (r = none → o = none ∧ ∀ p ∈ A, lk L p.1 = none) ∧
    (∀ l, r = some l → (∀ l0, o = some l0 → l ≤ l0) ∧ (∀ p ∈ A, ∀ c, lk L p.1 = some c → l ≤ c / ((p.2 : Rat) / W)) ∧
      (o = some l ∨ ∃ p ∈ A, ∃ c, lk L p.1 = some c ∧ l = c / ((p.2 : Rat) / W)))
  | [], o, r, e => by
    have e : o = r := e
    subst e
    refine ⟨fun h => ⟨h, fun p hp => (by cases hp)⟩, fun l h => ⟨fun l0 h0 => (by rw [h] at h0; cases h0; exact Rat.le_refl), fun p hp => (by cases hp), .inl h⟩⟩
  | (h, w) :: A, o, r, e => by
    unfold lenOf at e
    obtain ⟨i1, i2⟩ := lenOf_spec (A := A) e
    cases hl : lk L h with
    | none =>
      simp only [hl] at i1 i2
      refine ⟨fun hr => ⟨(i1 hr).1, fun p hp => ?_⟩, fun l hr => ⟨(i2 l hr).1, fun p hp c hc => ?_, ?_⟩⟩
      · rcases List.mem_cons.mp hp with z | z
        · subst z; exact hl
        · exact (i1 hr).2 p z
      · rcases List.mem_cons.mp hp with z | z
        · subst z; rw [hl] at hc; cases hc
        · exact (i2 l hr).2.1 p z c hc
      · rcases (i2 l hr).2.2 with z | ⟨p, hp, c, h1, h2⟩
        · exact .inl z
        · exact .inr ⟨p, List.mem_cons_of_mem _ hp, c, h1, h2⟩
    | some c0 =>
      simp only [hl] at i1 i2
      refine ⟨fun hr => (by cases (i1 hr).1), fun l hr => ?_⟩
      obtain ⟨j1, j2, j3⟩ := i2 l hr
      have j1' := j1 _ rfl
      cases o with
      | none =>
        simp only at j1' j3
        refine ⟨fun l0 h0 => (by cases h0), fun p hp c hc => ?_, ?_⟩
        · rcases List.mem_cons.mp hp with z | z
          · subst z; rw [hl] at hc; cases hc; exact j1'
          · exact j2 p z c hc
        · rcases j3 with z | ⟨p, hp, c, h1, h2⟩
          · cases z; exact .inr ⟨(h, w), by simp, c0, hl, rfl⟩
          · exact .inr ⟨p, List.mem_cons_of_mem _ hp, c, h1, h2⟩
      | some l1 =>
        simp only at j1' j3
        refine ⟨fun l0 h0 => (by cases h0; split at j1' <;> grind), fun p hp c hc => ?_, ?_⟩
        · rcases List.mem_cons.mp hp with z | z
          · subst z; rw [hl] at hc; cases hc; split at j1' <;> grind
          · exact j2 p z c hc
        · rcases j3 with z | ⟨p, hp, c, h1, h2⟩
          · by_cases hlt : c0 / ((w : Rat) / W) < l1
            · rw [if_pos hlt] at z; cases z; exact .inr ⟨(h, w), by simp, c0, hl, rfl⟩
            · rw [if_neg hlt] at z; exact .inl z
          · exact .inr ⟨p, List.mem_cons_of_mem _ hp, c, h1, h2⟩
theorem div_pos {a b : Rat} (ha : 0 < a) (hb : 0 < b) : 0 < a / b := by
  rw [Rat.div_def]; exact Rat.mul_pos ha (Rat.inv_pos.mpr hb)
theorem le_div {a b c : Rat} (hc : 0 < c) : a ≤ b / c ↔ a * c ≤ b := by
  rw [← Rat.not_lt, ← Rat.not_lt, Rat.div_lt_iff hc]
section step
variable {A : List (Nat × Nat)} {L : List (Nat × Rat)} {l : Rat}
theorem St.W (s : St A L) (h : A ≠ []) : (0 : Rat) < (wsum A : Rat) := Rat.natCast_pos.mpr (wsum_pos s.wp h)
theorem St.rp (s : St A L) (h : A ≠ []) {p : Nat × Nat} (hp : p ∈ A) : (0 : Rat) < (p.2 : Rat) / (wsum A : Rat) := div_pos (Rat.natCast_pos.mpr (s.wp p hp)) (s.W h)
theorem St.lkA (s : St A L) {h : Nat} {c : Rat} (e : lk L h = some c) : ∃ w, lk A h = some w := by
  obtain ⟨q, hq, hk⟩ := s.sub _ (lk_mem e)
  exact ⟨q.2, by rw [← show q.1 = h from hk]; exact mem_lk s.dA hq⟩
/-- l is the time after which the first of them is full -/
structure Ln (A : List (Nat × Nat)) (L : List (Nat × Rat)) (l : Rat) : Prop where
  pos : 0 < l
  le : ∀ h w c, lk A h = some w → lk L h = some c → l * ((w : Rat) / (wsum A : Rat)) ≤ c
  ex : ∃ h w c, lk A h = some w ∧ lk L h = some c ∧ l * ((w : Rat) / (wsum A : Rat)) = c
theorem Ln.of (s : St A L) (h0 : A ≠ []) (e : lenOf L (wsum A : Rat) A none = some l) : Ln A L l := by
  obtain ⟨_, h2, h3⟩ := (lenOf_spec e).2 l rfl
  rcases h3 with z | ⟨p, hp, c, hc, hl⟩
  · cases z
  · have hr := s.rp h0 hp
    have hcp := s.lp _ (lk_mem hc)
    refine ⟨by rw [hl]; exact div_pos hcp hr, fun h w c' ha hc' => ?_, p.1, p.2, c, mem_lk s.dA hp, hc, by rw [hl]; exact Rat.div_mul_cancel (by grind)⟩
    have := h2 (h, w) (lk_mem ha) c' hc'
    exact (le_div (s.rp h0 (lk_mem ha))).mp this
theorem rt_some {h w : Nat} {W : Rat} (e : lk A h = some w) : rt A W h = (w : Rat) / W := by unfold rt; rw [e]
theorem rt_none {h : Nat} {W : Rat} (e : lk A h = none) : rt A W h = 0 := by unfold rt; rw [e]
theorem lk_low {r : Nat → Rat} {h : Nat} : lk (lowL L r l) h = (lk L h).map fun c => c - l * r h := lk_map (fun k c => c - l * r k) L h
theorem lk_keepL (d : Dis L) {h : Nat} : lk (keepL L) h = (lk L h).bind fun c => if c ≠ 0 then some c else none := by
  unfold keepL
  rw [lk_filter d]
  cases lk L h <;> simp
theorem lk_keepA (d : Dis A) {h : Nat} : lk (keepA L A) h = (lk A h).bind fun w => match lk L h with | none => some w | some c => if c ≠ 0 then some w else none := by
  unfold keepA
  rw [lk_filter d]
  cases lk A h with
  | none => rfl
  | some w =>
    simp only [Option.bind_some]
    cases lk L h <;> simp
theorem St.next (s : St A L) (n : Ln A L l) : St (keepA (lowL L (rt A (wsum A : Rat)) l) A) (keepL (lowL L (rt A (wsum A : Rat)) l)) := by
  have dlow : Dis (lowL L (rt A (wsum A : Rat)) l) := dis_map (fun k c => c - l * rt A (wsum A : Rat) k) s.dL
  refine ⟨List.Pairwise.filter _ s.dA, List.Pairwise.filter _ dlow, fun p hp => s.wp p (List.mem_filter.mp hp).1, fun p hp => ?_, fun p hp => ?_⟩
  · have h1 := List.mem_filter.mp hp
    obtain ⟨q, hq, rfl⟩ := List.mem_map.mp h1.1
    have hlk := mem_lk s.dL hq
    obtain ⟨w, hw⟩ := s.lkA hlk
    have := n.le _ _ _ hw hlk
    have hne := of_decide_eq_true h1.2
    simp only [rt_some hw] at hne ⊢
    grind
  · have hd : lk (keepL (lowL L (rt A (wsum A : Rat)) l)) p.1 = some p.2 := mem_lk (List.Pairwise.filter _ dlow) hp
    have h1 := List.mem_filter.mp hp
    obtain ⟨q, hq, rfl⟩ := List.mem_map.mp h1.1
    obtain ⟨r, hr, hk⟩ := s.sub _ hq
    refine ⟨r, List.mem_filter.mpr ⟨hr, ?_⟩, hk⟩
    have e : lk (lowL L (rt A (wsum A : Rat)) l) r.1 = some (q.2 - l * rt A (wsum A : Rat) q.1) := by
      rw [hk, lk_low, mem_lk s.dL hq]; rfl
    simp only [e]
    exact h1.2
theorem keepA_short (s : St A L) (n : Ln A L l) : (keepA (lowL L (rt A (wsum A : Rat)) l) A).length < A.length := by
  obtain ⟨h, w, c, h1, h2, h3⟩ := n.ex
  unfold keepA
  refine List.length_filter_lt_length_iff_exists.mpr ⟨(h, w), lk_mem h1, ?_⟩
  have e : lk (lowL L (rt A (wsum A : Rat)) l) h = some 0 := by
    rw [lk_low, h2, rt_some h1]
    show some _ = some _
    congr 1
    grind
  simp only [e]
  simp
end step
theorem wf_sp : ∀ (n : Nat) (A : List (Nat × Nat)) (L : List (Nat × Rat)) (x : Rat), St A L → A.length ≤ n → 0 ≤ x → WF A L x (ev (spGo (n + 1) A L) x)
  | n, A, L, x, s, hn, hx => by
    unfold spGo
    by_cases hA : A = []
    · rw [if_pos hA]
      subst hA
      exact ⟨0, Rat.le_refl, fun h => rfl, .inr ⟨hx, fun p hp => by cases hp⟩⟩
    · rw [if_neg hA]
      have hW := s.W hA
      have hWne : (wsum A : Rat) ≠ 0 := by grind
      have hW1 : (wsum A : Rat)⁻¹ * (wsum A : Rat) = 1 := Rat.inv_mul_cancel _ hWne
      cases hl : lenOf L (wsum A : Rat) A none with
      | none =>
        have hno := ((lenOf_spec hl).1 rfl).2
        simp only
        refine ⟨x / (wsum A : Rat), ?_, fun h => ?_, .inl ?_⟩
        · rw [Rat.div_def]; exact Rat.mul_nonneg hx (Rat.le_of_lt (Rat.inv_pos.mpr hW))
        · show rt A (wsum A : Rat) h * x = _
          unfold rt mf
          cases ha : lk A h with
          | none => simp only; grind
          | some w =>
            have := hno (h, w) (lk_mem ha)
            simp only at this
            simp only [this, Rat.div_def]
            grind
        · show sm A (fun h => rt A (wsum A : Rat) h * x) = x
          rw [sm_mul, sm_rt s.dA rfl hW]
          grind
      | some l =>
        have nn := Ln.of s hA hl
        simp only
        have hsum : ∀ y : Rat, sm A (fun h => rt A (wsum A : Rat) h * y) = y := fun y => by
          rw [sm_mul, sm_rt s.dA rfl hW]; grind
        by_cases hxl : x ≤ l
        · have e : ev ((some l, rt A (wsum A : Rat)) :: spGo n (keepA (lowL L (rt A (wsum A : Rat)) l) A) (keepL (lowL L (rt A (wsum A : Rat)) l))) x = fun h => rt A (wsum A : Rat) h * x := by
            funext h; unfold ev; rw [if_pos hxl]
          rw [e]
          refine ⟨x / (wsum A : Rat), ?_, fun h => ?_, .inl (hsum x)⟩
          · rw [Rat.div_def]; exact Rat.mul_nonneg hx (Rat.le_of_lt (Rat.inv_pos.mpr hW))
          · show rt A (wsum A : Rat) h * x = _
            unfold mf
            cases ha : lk A h with
            | none => rw [rt_none ha]; simp only; grind
            | some w =>
              rw [rt_some ha]
              have hwx : (w : Rat) / (wsum A : Rat) * x = (w : Rat) * (x / (wsum A : Rat)) := by rw [Rat.div_def, Rat.div_def]; grind
              cases hc : lk L h with
              | none => simp only; exact hwx
              | some c =>
                simp only
                have h1 := nn.le h w c ha hc
                have hr := s.rp hA (lk_mem ha)
                have h2 : x * ((w : Rat) / (wsum A : Rat)) ≤ l * ((w : Rat) / (wsum A : Rat)) := Rat.mul_le_mul_of_nonneg_right hxl (Rat.le_of_lt hr)
                rw [← hwx]
                split <;> grind
        · have hxl' : l < x := Rat.not_le.mp hxl
          obtain ⟨m, rfl⟩ : ∃ m, n = m + 1 := by
            have : A.length ≠ 0 := fun z => hA (List.eq_nil_of_length_eq_zero z)
            exact ⟨n - 1, by omega⟩
          have short := keepA_short s nn
          have ih := wf_sp m _ _ (x - l) (s.next nn) (by omega) (by grind)
          obtain ⟨t', ht', hf', hs'⟩ := ih.ex
          generalize hA' : keepA (lowL L (rt A (wsum A : Rat)) l) A = A' at *
          generalize hL' : keepL (lowL L (rt A (wsum A : Rat)) l) = L' at *
          have dlow : Dis (lowL L (rt A (wsum A : Rat)) l) := dis_map (fun k c => c - l * rt A (wsum A : Rat) k) s.dL
          have kA : ∀ h, lk A' h = (lk A h).bind fun w => match (lk L h).map (fun c => c - l * rt A (wsum A : Rat) h) with | none => some w | some c => if c ≠ 0 then some w else none := fun h => by
            rw [← hA', lk_keepA s.dA, lk_low]
          have kL : ∀ h, lk L' h = ((lk L h).map (fun c => c - l * rt A (wsum A : Rat) h)).bind fun c => if c ≠ 0 then some c else none := fun h => by
            rw [← hL', lk_keepL dlow, lk_low]
          have e : ev ((some l, rt A (wsum A : Rat)) :: spGo (m + 1) A' L') x = fun h => rt A (wsum A : Rat) h * l + ev (spGo (m + 1) A' L') (x - l) h := by
            funext h; conv => lhs; unfold ev
            rw [if_neg hxl]
          rw [e]
          have hf : ∀ h, rt A (wsum A : Rat) h * l + ev (spGo (m + 1) A' L') (x - l) h = mf A L (t' + l / (wsum A : Rat)) h := by
            intro h
            rw [hf' h]
            have k1 := kA h
            have k2 := kL h
            unfold mf
            cases ha : lk A h with
            | none =>
              rw [ha] at k1
              rw [rt_none ha]
              simp only [Option.bind_none] at k1
              rw [k1]
              simp only; grind
            | some w =>
              rw [ha, rt_some ha] at k1
              rw [rt_some ha] at k2 ⊢
              have hwl : (w : Rat) * (l / (wsum A : Rat)) = (w : Rat) / (wsum A : Rat) * l := by rw [Rat.div_def, Rat.div_def]; grind
              have hwt : (0 : Rat) ≤ (w : Rat) * t' := Rat.mul_nonneg Rat.natCast_nonneg ht'
              have hdis : (w : Rat) * (t' + l / (wsum A : Rat)) = (w : Rat) * t' + (w : Rat) / (wsum A : Rat) * l := by rw [Rat.mul_add, hwl]
              cases hc : lk L h with
              | none =>
                rw [hc] at k1 k2
                simp only [Option.map_none, Option.bind_some, Option.bind_none] at k1 k2
                rw [k1, k2]
                simp only
                grind
              | some c =>
                rw [hc] at k1 k2
                simp only [Option.map_some, Option.bind_some] at k1 k2
                have hle := nn.le h w c ha hc
                by_cases hz : c - l * ((w : Rat) / (wsum A : Rat)) = 0
                · rw [if_neg (by simpa using hz)] at k1
                  rw [k1]
                  simp only
                  rw [hdis]
                  split <;> grind
                · rw [if_pos hz] at k1 k2
                  rw [k1, k2]
                  simp only
                  rw [hdis]
                  split <;> split <;> grind
          refine ⟨t' + l / (wsum A : Rat), ?_, hf, ?_⟩
          · have : (0 : Rat) < l / (wsum A : Rat) := div_pos nn.pos hW
            grind
          · have hsm : sm A (fun h => rt A (wsum A : Rat) h * l + ev (spGo (m + 1) A' L') (x - l) h) = l + sm A' (ev (spGo (m + 1) A' L') (x - l)) := by
              have hz : ∀ p ∈ A, lk A' p.1 = none → ev (spGo (m + 1) A' L') (x - l) p.1 = 0 := fun p _ hn => by
                rw [hf' p.1]; unfold mf; rw [hn]
              generalize ev (spGo (m + 1) A' L') (x - l) = g at hz ⊢
              rw [sm_add, hsum l]
              congr 1
              have kA' := kA
              rw [← hA']
              unfold keepA
              refine (sm_filter fun p hp hq => hz p hp ?_).symm
              rw [kA' p.1, mem_lk s.dA hp]
              simp only [lk_low] at hq
              simp only [Option.bind_some]
              cases hc : (lk L p.1).map (fun c => c - l * rt A (wsum A : Rat) p.1) with
              | none => rw [hc] at hq; simp at hq
              | some c => rw [hc] at hq; simp at hq; simp [hq]
            rw [hsm]
            rcases hs' with z | ⟨z, hall⟩
            · left; rw [z]; grind
            · right
              refine ⟨by grind, fun p hp => ?_⟩
              have ha := mem_lk s.dA hp
              have k1 := kA p.1
              have k2 := kL p.1
              rw [ha] at k1
              simp only [rt_some ha] at k1 k2 ⊢
              cases hc : lk L p.1 with
              | none =>
                rw [hc] at k1 k2
                simp only [Option.map_none, Option.bind_some, Option.bind_none] at k1 k2
                obtain ⟨c, h1, _⟩ := hall (p.1, p.2) (lk_mem k1)
                simp only at h1
                rw [k2] at h1
                cases h1
              | some c =>
                rw [hc] at k1 k2
                simp only [Option.map_some, Option.bind_some] at k1 k2
                refine ⟨c, rfl, ?_⟩
                by_cases hz : c - l * ((p.2 : Rat) / (wsum A : Rat)) = 0
                · rw [if_neg (by simpa using hz)] at k1
                  rw [hf' p.1]
                  unfold mf
                  rw [k1]
                  simp only
                  grind
                · rw [if_pos hz] at k1 k2
                  obtain ⟨c', h1, h2⟩ := hall (p.1, p.2) (lk_mem k1)
                  simp only at h1 h2
                  rw [k2] at h1
                  cases h1
                  rw [h2]
                  grind
end Mx

/-! plain mathematics: how the law fills a level; whole ladders -/
namespace Mx
def capR (C : List (Nat × Nat)) (h : Nat) : Nat := (lk C h).getD 0
def csum (C : List (Nat × Nat)) (F : List Nat) : Nat := (F.map (capR C)).sum
def freeA (A : List (Nat × Nat)) (F : List Nat) : List (Nat × Nat) := A.filter fun p => !F.contains p.1
def lvl (A C : List (Nat × Nat)) (F : List Nat) (x : Rat) : Rat := (x - (csum C F : Rat)) / ((max 1 (wsum (freeA A F)) : Nat) : Rat)
def moreQ (C : List (Nat × Nat)) (v : Rat) (p : Nat × Nat) : Bool := match lk C p.1 with
  | none => false
  | some c => decide ((c : Rat) < v * (p.2 : Rat))
def moreA (A C : List (Nat × Nat)) (F : List Nat) (x : Rat) : List Nat := ((freeA A F).filter (moreQ C (lvl A C F x))).map (·.1)
def fullGo (A C : List (Nat × Nat)) (x : Rat) : Nat → List Nat → List Nat
  | 0, F => F
  | n + 1, F => if moreA A C F x = [] then F else fullGo A C x n (F ++ moreA A C F x)
def lawF (A C : List (Nat × Nat)) (x : Rat) (F : List Nat) (h : Nat) : Rat := match lk A h with
  | none => 0
  | some w => if F.contains h then (capR C h : Rat) else lvl A C F x * (w : Rat)
def ratC (C : List (Nat × Nat)) : List (Nat × Rat) := C.map fun p => (p.1, (p.2 : Rat))
theorem lk_ratC {C : List (Nat × Nat)} {h : Nat} : lk (ratC C) h = (lk C h).map (fun (c : Nat) => (c : Rat)) := lk_map (β := Nat) (fun (_ : Nat) (c : Nat) => (c : Rat)) C h
structure FInv (A C : List (Nat × Nat)) (x : Rat) (F : List Nat) (τ : Rat) : Prop where
  t0 : 0 ≤ τ
  cap : ∀ h, F.contains h = true → ∃ w c, lk A h = some w ∧ lk C h = some c ∧ (c : Rat) ≤ (w : Rat) * τ
  le : (csum C F : Rat) + τ * (wsum (freeA A F) : Rat) ≤ x
  cs : (csum C F : Rat) = sm (A.filter fun p => F.contains p.1) (fun h => (capR C h : Rat))
theorem wsum_split (A : List (Nat × Nat)) (q : Nat × Nat → Bool) : wsum A = wsum (A.filter q) + wsum (A.filter fun p => !q p) := by
  induction A with
  | nil => rfl
  | cons p A ih =>
    rw [wsum_cons, ih]
    cases hq : q p with
    | true => rw [List.filter_cons_of_pos hq, List.filter_cons_of_neg (by simp [hq]), wsum_cons]; omega
    | false => rw [List.filter_cons_of_neg (by simp [hq]), List.filter_cons_of_pos (by simp [hq]), wsum_cons]; omega
theorem csum_append (C) (F G : List Nat) : csum C (F ++ G) = csum C F + csum C G := by unfold csum; rw [List.map_append, List.sum_append]
theorem more_free {A C : List (Nat × Nat)} (d : Dis A) (F : List Nat) (x : Rat) : freeA A (F ++ moreA A C F x) = (freeA A F).filter fun p => !moreQ C (lvl A C F x) p := by
  unfold freeA
  rw [List.filter_filter]
  refine List.filter_congr fun p hp => ?_
  have key : (moreA A C F x).contains p.1 = (!F.contains p.1 && moreQ C (lvl A C F x) p) := by
    rw [Bool.eq_iff_iff]
    unfold moreA
    rw [List.contains_iff_mem, List.mem_map, Bool.and_eq_true]
    constructor
    · rintro ⟨q, hq, e⟩
      have h1 := List.mem_filter.mp hq
      have h2 := List.mem_filter.mp h1.1
      have : q = p := by
        have a := mem_lk d h2.1
        have b := mem_lk d hp
        rw [e, b] at a
        exact Prod.ext e (Option.some.inj a).symm
      rw [this] at h1 h2
      exact ⟨h2.2, h1.2⟩
    · rintro ⟨h1, h2⟩
      exact ⟨p, List.mem_filter.mpr ⟨List.mem_filter.mpr ⟨hp, h1⟩, h2⟩, rfl⟩
  have e : (F ++ moreA A C F x).contains p.1 = (F.contains p.1 || (moreA A C F x).contains p.1) := by
    rw [Bool.eq_iff_iff]; simp
  rw [e, key]
  cases F.contains p.1 <;> cases moreQ C (lvl A C F x) p <;> rfl
theorem more_in {A C : List (Nat × Nat)} (F : List Nat) (x : Rat) {h : Nat} (hm : (moreA A C F x).contains h = true) : ∃ w, (h, w) ∈ A ∧ F.contains h = false ∧ moreQ C (lvl A C F x) (h, w) = true := by
  unfold moreA at hm
  rw [List.contains_iff_mem, List.mem_map] at hm
  obtain ⟨q, hq, e⟩ := hm
  have h1 := List.mem_filter.mp hq
  have h2 := List.mem_filter.mp h1.1
  refine ⟨q.2, by rw [← e]; exact h2.1, by rw [← e]; simpa using h2.2, by rw [← e]; exact h1.2⟩
theorem csum_more {C : List (Nat × Nat)} {v : Rat} : ∀ (B : List (Nat × Nat)), (csum C ((B.filter (moreQ C v)).map (·.1)) : Rat) ≤ v * (wsum (B.filter (moreQ C v)) : Rat)
  | [] => by show ((0 : Nat) : Rat) ≤ v * ((0 : Nat) : Rat); grind
  | p :: B => by
    have ih := csum_more (C := C) (v := v) B
    cases hq : moreQ C v p with
    | false => rw [List.filter_cons_of_neg (by simp [hq])]; exact ih
    | true =>
      rw [List.filter_cons_of_pos hq, List.map_cons, wsum_cons]
      have e : csum C (p.1 :: (B.filter (moreQ C v)).map (·.1)) = capR C p.1 + csum C ((B.filter (moreQ C v)).map (·.1)) := rfl
      rw [e, Rat.natCast_add, Rat.natCast_add, Rat.mul_add]
      unfold moreQ at hq
      unfold capR
      cases hc : lk C p.1 with
      | none => rw [hc] at hq; cases hq
      | some c =>
        rw [hc] at hq
        have := of_decide_eq_true hq
        show (c : Rat) + _ ≤ _
        grind
theorem sm_split {A : List (Nat × Nat)} {f : Nat → Rat} (q r : Nat × Nat → Bool) (h : ∀ p ∈ A, q p = true → r p = false) : sm (A.filter fun p => q p || r p) f = sm (A.filter q) f + sm (A.filter r) f := by
  induction A with
  | nil => show (0 : Rat) = 0 + 0; grind
  | cons p A ih =>
    have ih := ih fun x hx => h x (List.mem_cons_of_mem _ hx)
    have hp := h p (by simp)
    cases hq : q p with
    | true =>
      have hr := hp hq
      rw [List.filter_cons_of_pos (by simp [hq]), List.filter_cons_of_pos hq, List.filter_cons_of_neg (by simp [hr]), sm_cons, sm_cons, ih]; grind
    | false =>
      cases hr : r p with
      | true => rw [List.filter_cons_of_pos (by simp [hr]), List.filter_cons_of_neg (by simp [hq]), List.filter_cons_of_pos hr, sm_cons, sm_cons, ih]; grind
      | false => rw [List.filter_cons_of_neg (by simp [hq, hr]), List.filter_cons_of_neg (by simp [hq]), List.filter_cons_of_neg (by simp [hr]), ih]
theorem csum_map {C : List (Nat × Nat)} : ∀ B : List (Nat × Nat), (csum C (B.map (·.1)) : Rat) = sm B (fun h => (capR C h : Rat))
  | [] => rfl
  | p :: B => by
    rw [sm_cons, ← csum_map B, List.map_cons]
    show ((capR C p.1 + csum C (B.map (·.1)) : Nat) : Rat) = _
    rw [Rat.natCast_add]
theorem lvl_ge {A C : List (Nat × Nat)} {x τ : Rat} {F : List Nat} (i : FInv A C x F τ) (h : freeA A F ≠ []) (hw : ∀ p ∈ A, 0 < p.2) : τ ≤ lvl A C F x ∧ (csum C F : Rat) + lvl A C F x * (wsum (freeA A F) : Rat) = x := by
  have hp : 0 < wsum (freeA A F) := wsum_pos (fun p hp => hw p (List.mem_filter.mp hp).1) h
  have hm : max 1 (wsum (freeA A F)) = wsum (freeA A F) := by omega
  have hr : (0 : Rat) < (wsum (freeA A F) : Rat) := Rat.natCast_pos.mpr hp
  have := i.le
  unfold lvl
  rw [hm]
  refine ⟨(le_div hr).mpr (by grind), ?_⟩
  rw [Rat.div_mul_cancel (by grind)]
  grind
theorem FInv.next {A C : List (Nat × Nat)} {x τ : Rat} {F : List Nat} (i : FInv A C x F τ) (d : Dis A) (hw : ∀ p ∈ A, 0 < p.2) (h : moreA A C F x ≠ []) :
    FInv A C x (F ++ moreA A C F x) (lvl A C F x) ∧ (freeA A (F ++ moreA A C F x)).length < (freeA A F).length := by
  have hne : freeA A F ≠ [] := fun z => h (by unfold moreA; rw [z]; rfl)
  obtain ⟨h1, h2⟩ := lvl_ge i hne hw
  have ht := i.t0
  refine ⟨⟨by grind, fun k hk => ?_, ?_, ?_⟩, ?_⟩
  · have : F.contains k = true ∨ (moreA A C F x).contains k = true := by simpa using hk
    rcases this with z | z
    · obtain ⟨w, c, a1, a2, a3⟩ := i.cap k z
      have := mul_mono (w := w) h1
      exact ⟨w, c, a1, a2, by grind⟩
    · obtain ⟨w, m1, m2, m3⟩ := more_in F x z
      unfold moreQ at m3
      cases hc : lk C k with
      | none => simp only [hc] at m3; cases m3
      | some c =>
        simp only [hc] at m3
        have := of_decide_eq_true m3
        exact ⟨w, c, mem_lk (p := (k, w)) d m1, rfl, by grind⟩
  · rw [csum_append, more_free d, Rat.natCast_add]
    have h3 := csum_more (C := C) (v := lvl A C F x) (freeA A F)
    have h4 := wsum_split (freeA A F) (moreQ C (lvl A C F x))
    rw [h4, Rat.natCast_add, Rat.mul_add] at h2
    have h5 : csum C (moreA A C F x) = csum C (((freeA A F).filter (moreQ C (lvl A C F x))).map (·.1)) := rfl
    rw [h5]
    grind
  · rw [csum_append, Rat.natCast_add, i.cs]
    have h5 : (csum C (moreA A C F x) : Rat) = sm ((freeA A F).filter (moreQ C (lvl A C F x))) (fun h => (capR C h : Rat)) := csum_map _
    rw [h5]
    have e : (A.filter fun p => (F ++ moreA A C F x).contains p.1) = A.filter fun p => F.contains p.1 || (!F.contains p.1 && moreQ C (lvl A C F x) p) := by
      refine List.filter_congr fun p hp => ?_
      have hf : (freeA A (F ++ moreA A C F x)).contains p = ((freeA A F).filter fun p => !moreQ C (lvl A C F x) p).contains p := by rw [more_free d]
      have g1 : (freeA A (F ++ moreA A C F x)).contains p = !(F ++ moreA A C F x).contains p.1 := by
        rw [Bool.eq_iff_iff, List.contains_iff_mem]
        unfold freeA
        rw [List.mem_filter]
        exact ⟨fun z => z.2, fun z => ⟨hp, z⟩⟩
      have g2 : ((freeA A F).filter fun p => !moreQ C (lvl A C F x) p).contains p = (!F.contains p.1 && !moreQ C (lvl A C F x) p) := by
        rw [Bool.eq_iff_iff, List.contains_iff_mem, List.mem_filter, Bool.and_eq_true]
        unfold freeA
        rw [List.mem_filter]
        exact ⟨fun z => ⟨z.1.2, z.2⟩, fun z => ⟨⟨hp, z.1⟩, z.2⟩⟩
      rw [g1, g2] at hf
      generalize (F ++ moreA A C F x).contains p.1 = a at hf ⊢
      generalize F.contains p.1 = b at hf ⊢
      generalize moreQ C (lvl A C F x) p = c at hf ⊢
      revert hf
      cases a <;> cases b <;> cases c <;> decide
    rw [e, sm_split (fun p => F.contains p.1) (fun p => !F.contains p.1 && moreQ C (lvl A C F x) p) (fun p _ z => by show (!F.contains p.1 && _) = false; rw [show F.contains p.1 = true from z]; rfl)]
    congr 1
    unfold freeA
    rw [List.filter_filter]
    congr 1
    refine List.filter_congr fun p _ => ?_
    rw [Bool.and_comm]
  · rw [more_free d]
    refine List.length_filter_lt_length_iff_exists.mpr ?_
    cases hm : (freeA A F).filter (moreQ C (lvl A C F x)) with
    | nil => exact absurd (by unfold moreA; rw [hm]; rfl) h
    | cons p B =>
      have := List.mem_filter.mp (show p ∈ (freeA A F).filter (moreQ C (lvl A C F x)) by rw [hm]; simp)
      exact ⟨p, this.1, by simp [this.2]⟩
theorem FInv.end {A C : List (Nat × Nat)} {x τ : Rat} {F : List Nat} (i : FInv A C x F τ) (d : Dis A) (hw : ∀ p ∈ A, 0 < p.2) (h : moreA A C F x = []) :
    WF A (ratC C) x (lawF A C x F) ∧ (if freeA A F = [] then x - (csum C F : Rat) else 0) = x - sm A (lawF A C x F) := by
  have hcapF : ∀ p ∈ A, F.contains p.1 = true → lawF A C x F p.1 = (capR C p.1 : Rat) := fun p hp hF => by
    unfold lawF; rw [mem_lk d hp]; simp only [hF, if_true]
  have hfree : ∀ p ∈ A, F.contains p.1 = false → lawF A C x F p.1 = lvl A C F x * (p.2 : Rat) := fun p hp hF => by
    unfold lawF; rw [mem_lk d hp]; simp only [hF, Bool.false_eq_true, if_false]
  have hsum : sm A (lawF A C x F) = (csum C F : Rat) + lvl A C F x * (wsum (freeA A F) : Rat) := by
    have e1 : sm A (lawF A C x F) = sm (A.filter fun p => F.contains p.1 || !F.contains p.1) (lawF A C x F) := by
      congr 1
      symm
      rw [List.filter_eq_self]
      intro p _
      cases F.contains p.1 <;> rfl
    rw [e1, sm_split (fun p => F.contains p.1) (fun p => !F.contains p.1) (fun p _ z => by show (!F.contains p.1) = false; rw [show F.contains p.1 = true from z]; rfl), i.cs]
    congr 1
    · exact sm_congr fun p hp => hcapF p (List.mem_filter.mp hp).1 (List.mem_filter.mp hp).2
    · have e2 := sm_w d (lvl A C F x) (B := freeA A F) (fun p hp => (List.mem_filter.mp hp).1)
      have e3 : sm (A.filter fun p => !F.contains p.1) (lawF A C x F) = sm (freeA A F) (wv A (lvl A C F x)) := by
        unfold freeA
        refine sm_congr fun p hp => ?_
        have hp' := List.mem_filter.mp hp
        rw [hfree p hp'.1 (by simpa using hp'.2), wv_mem d hp'.1]
        grind
      rw [e3, e2]
      grind
  by_cases hB : freeA A F = []
  · have hall : ∀ p ∈ A, F.contains p.1 = true := fun p hp => by
      cases hc : F.contains p.1 with
      | true => rfl
      | false =>
        have : p ∈ freeA A F := List.mem_filter.mpr ⟨hp, by rw [hc]; rfl⟩
        rw [hB] at this; cases this
    have hle := i.le
    rw [hB] at hle hsum
    have z0 : ((wsum [] : Nat) : Rat) = 0 := rfl
    rw [z0] at hle hsum
    refine ⟨⟨τ, i.t0, fun h => ?_, .inr ⟨by rw [hsum]; grind, fun p hp => ?_⟩⟩, by rw [if_pos hB, hsum]; grind⟩
    · unfold lawF mf
      cases ha : lk A h with
      | none => rfl
      | some w =>
        have hF := hall (h, w) (lk_mem ha)
        simp only at hF
        obtain ⟨w', c, a1, a2, a3⟩ := i.cap h hF
        rw [ha] at a1
        cases a1
        simp only [hF, if_true, lk_ratC, a2, Option.map_some]
        rw [if_pos a3]
        unfold capR
        rw [a2]
        rfl
    · have hF := hall p hp
      obtain ⟨w', c, a1, a2, a3⟩ := i.cap _ hF
      refine ⟨(c : Rat), by rw [lk_ratC, a2]; rfl, ?_⟩
      rw [hcapF p hp hF]
      unfold capR
      rw [a2]
      rfl
  · obtain ⟨h1, h2⟩ := lvl_ge i hB hw
    have ht := i.t0
    refine ⟨⟨lvl A C F x, by grind, fun h => ?_, .inl (by rw [hsum]; exact h2)⟩, by rw [if_neg hB, hsum, h2]; grind⟩
    unfold lawF mf
    cases ha : lk A h with
    | none => rfl
    | some w =>
      simp only [lk_ratC]
      cases hF : F.contains h with
      | true =>
        obtain ⟨w', c, a1, a2, a3⟩ := i.cap h hF
        rw [ha] at a1
        cases a1
        have := mul_mono (w := w) h1
        simp only [if_true, a2, Option.map_some]
        rw [if_pos (by grind)]
        unfold capR
        rw [a2]
        rfl
      | false =>
        simp only [Bool.false_eq_true, if_false]
        have hmem : (h, w) ∈ freeA A F := List.mem_filter.mpr ⟨lk_mem ha, by simp only; rw [hF]; rfl⟩
        have hq : moreQ C (lvl A C F x) (h, w) = false := by
          cases hq : moreQ C (lvl A C F x) (h, w) with
          | false => rfl
          | true =>
            have : h ∈ moreA A C F x := List.mem_map.mpr ⟨(h, w), List.mem_filter.mpr ⟨hmem, hq⟩, rfl⟩
            rw [‹moreA A C F x = []›] at this
            cases this
        unfold moreQ at hq
        cases hc : lk C h with
        | none => simp only [Option.map_none]; grind
        | some c =>
          simp only [hc] at hq
          have hq := of_decide_eq_false hq
          simp only [Option.map_some]
          split <;> grind
theorem fullGo_ok {A C : List (Nat × Nat)} {x : Rat} (d : Dis A) (hw : ∀ p ∈ A, 0 < p.2) : ∀ (n : Nat) (F : List Nat) (τ : Rat), FInv A C x F τ → (freeA A F).length < n → ∃ τ', FInv A C x (fullGo A C x n F) τ' ∧ moreA A C (fullGo A C x n F) x = []
  | 0, F, τ, i, hn => by omega
  | n + 1, F, τ, i, hn => by
    unfold fullGo
    by_cases hm : moreA A C F x = []
    · rw [if_pos hm]; exact ⟨τ, i, hm⟩
    · rw [if_neg hm]
      obtain ⟨i2, hl⟩ := i.next d hw hm
      exact fullGo_ok d hw n _ _ i2 (by omega)
theorem FInv.start {A C : List (Nat × Nat)} {x : Rat} (hx : 0 ≤ x) : FInv A C x [] 0 := by
  refine ⟨Rat.le_refl, fun h hh => (by cases hh), ?_, ?_⟩
  · show ((0 : Nat) : Rat) + 0 * _ ≤ x; grind
  · have : (A.filter fun p => ([] : List Nat).contains p.1) = [] := by rw [List.filter_eq_nil_iff]; simp
    rw [this]; rfl
end Mx

/-! plain mathematics: rungs, ladders, bends -/
namespace Mx
inductive Rung where
  | fixed (s : List (Nat × Nat))
  | shares (w c : List (Nat × Nat))
def Rung.A : Rung → List (Nat × Nat)
  | .fixed s => s
  | .shares w _ => w
def Rung.C : Rung → List (Nat × Nat)
  | .fixed s => s
  | .shares _ c => c
def Rung.endless : Rung → Bool
  | .fixed _ => false
  | .shares w c => decide (c.length < w.length)
def pcs : Rung → List Pc
  | .fixed s => [(some (wsum s : Rat), rt s (wsum s : Rat))]
  | .shares w c => spGo (w.length + 1) w (ratC c)
structure POk (n m : Nat) (ps : List (Nat × Nat)) : Prop where
  el : ∀ p ∈ ps, p.1 < n ∧ 1 ≤ p.2 ∧ p.2 ≤ m
  inc : ps.Pairwise (fun a b => a.1 < b.1)
theorem POk.dis {n m : Nat} {ps : List (Nat × Nat)} (h : POk n m ps) : Dis ps := h.inc.imp fun z => Nat.ne_of_lt z
def Rung.Ok (n : Nat) : Rung → Prop
  | .fixed s => s ≠ [] ∧ POk n 999 s
  | .shares w c => w ≠ [] ∧ POk n 20 w ∧ POk n 999 c ∧ ∀ p ∈ c, ∃ q ∈ w, q.1 = p.1
def sn (n : Nat) (f : Nat → Rat) : Rat := ((List.range n).map f).sum
theorem sn_zero (f) : sn 0 f = 0 := rfl
theorem sn_succ (n f) : sn (n + 1) f = sn n f + f n := by unfold sn; rw [List.range_succ, List.map_append, List.sum_append]; simp; grind
theorem sn_congr {n : Nat} {f g : Nat → Rat} (h : ∀ k, k < n → f k = g k) : sn n f = sn n g := by
  induction n with
  | zero => rfl
  | succ n ih => rw [sn_succ, sn_succ, ih fun k hk => h k (by omega), h n (by omega)]
theorem sn_add {n : Nat} {f g : Nat → Rat} : sn n (fun h => f h + g h) = sn n f + sn n g := by
  induction n with
  | zero => rw [sn_zero, sn_zero, sn_zero]; grind
  | succ n ih => rw [sn_succ, sn_succ, sn_succ, ih]; grind
theorem sn_mul {n : Nat} {f : Nat → Rat} {c : Rat} : sn n (fun h => f h * c) = sn n f * c := by
  induction n with
  | zero => rw [sn_zero, sn_zero]; grind
  | succ n ih => rw [sn_succ, sn_succ, ih]; grind
theorem sn_nul {n : Nat} : sn n (fun _ => 0) = 0 := by
  induction n with
  | zero => rfl
  | succ n ih => rw [sn_succ, ih]; grind
theorem sn_one {n k : Nat} {v : Rat} (h : k < n) : sn n (fun j => if j = k then v else 0) = v := by
  induction n with
  | zero => omega
  | succ n ih =>
    rw [sn_succ]
    by_cases hk : k = n
    · subst hk
      rw [if_pos rfl, sn_congr (g := fun _ => 0) fun j hj => if_neg (by omega), sn_nul]; grind
    · rw [ih (by omega), if_neg (Ne.symm hk)]; grind
/-- all holders' sum is that of those who take part -/
theorem sn_sm {n : Nat} : ∀ {A : List (Nat × Nat)} {f : Nat → Rat}, Dis A → (∀ p ∈ A, p.1 < n) → (∀ h, lk A h = none → f h = 0) → sn n f = sm A f
  | [], f, _, _, h => by rw [sm_nil, sn_congr (g := fun _ => 0) fun k _ => h k rfl, sn_nul]
  | (k, w) :: A, f, d, hn, h => by
    have d' := List.pairwise_cons.mp d
    have e : sn n f = sn n (fun j => (if j = k then f k else 0) + (if j = k then 0 else f j)) := sn_congr fun j _ => by
      by_cases hj : j = k
      · rw [if_pos hj, if_pos hj, hj]; grind
      · rw [if_neg hj, if_neg hj]; grind
    rw [e, sn_add, sn_one (hn (k, w) (by simp)), sm_cons, sn_sm (A := A) d'.2 (fun p hp => hn p (List.mem_cons_of_mem _ hp)) fun j hj => ?_]
    · congr 1
      exact sm_congr fun p hp => if_neg (Ne.symm (d'.1 p hp))
    · by_cases hk : j = k
      · rw [if_pos hk]
      · rw [if_neg hk]
        refine h j ?_
        unfold lk
        rw [if_neg (Ne.symm hk)]
        exact hj
structure PcOk (n : Nat) (pc : Pc) : Prop where
  one : sn n pc.2 = 1
  nn : ∀ h, 0 ≤ pc.2 h
  out : ∀ h, n ≤ h → pc.2 h = 0
  pos : ∀ l, pc.1 = some l → 0 < l
theorem rt_nn {A : List (Nat × Nat)} {W : Rat} (hW : 0 < W) (h : Nat) : 0 ≤ rt A W h := by
  unfold rt
  cases lk A h with
  | none => exact Rat.le_refl
  | some w => simp only; rw [Rat.div_def]; exact Rat.mul_nonneg Rat.natCast_nonneg (Rat.le_of_lt (Rat.inv_pos.mpr hW))
theorem rt_ok {n : Nat} {A : List (Nat × Nat)} (d : Dis A) (hn : ∀ p ∈ A, p.1 < n) (hw : ∀ p ∈ A, 0 < p.2) (h0 : A ≠ []) {o : Option Rat} (ho : ∀ l, o = some l → 0 < l) : PcOk n (o, rt A (wsum A : Rat)) := by
  have hW : (0 : Rat) < (wsum A : Rat) := Rat.natCast_pos.mpr (wsum_pos hw h0)
  refine ⟨?_, rt_nn hW, fun h hh => rt_none (lk_none.mpr fun p hp e => ?_), ho⟩
  · rw [sn_sm d hn fun h e => rt_none e]; exact sm_rt d rfl hW
  · have := hn p hp; omega
theorem spGo_ok {n : Nat} : ∀ (k : Nat) (A : List (Nat × Nat)) (L : List (Nat × Rat)), St A L → (∀ p ∈ A, p.1 < n) → ∀ pc ∈ spGo k A L, PcOk n pc
  | 0, A, L, s, hn, pc, h => by cases h
  | k + 1, A, L, s, hn, pc, h => by
    unfold spGo at h
    by_cases hA : A = []
    · rw [if_pos hA] at h; cases h
    · rw [if_neg hA] at h
      cases hl : lenOf L (wsum A : Rat) A none with
      | none =>
        simp only [hl] at h
        rw [List.mem_singleton.mp h]
        exact rt_ok s.dA hn s.wp hA fun l e => by cases e
      | some l =>
        simp only [hl] at h
        have nn := Ln.of s hA hl
        rcases List.mem_cons.mp h with z | z
        · rw [z]; exact rt_ok s.dA hn s.wp hA fun l' e => by cases e; exact nn.pos
        · exact spGo_ok k _ _ (s.next nn) (fun p hp => hn p (List.mem_filter.mp hp).1) pc z
def Fin (ps : List Pc) : Prop := ∀ pc ∈ ps, pc.1 ≠ none
def End (ps : List Pc) : Prop := ∃ qs r, ps = qs ++ [(none, r)] ∧ Fin qs
theorem End.cons {pc : Pc} {ps : List Pc} (h : pc.1 ≠ none) (e : End ps) : End (pc :: ps) := by
  obtain ⟨qs, r, rfl, f⟩ := e
  exact ⟨pc :: qs, r, rfl, fun x hx => by rcases List.mem_cons.mp hx with z | z; rw [z]; exact h; exact f x z⟩
theorem spGo_end : ∀ (k : Nat) (A : List (Nat × Nat)) (L : List (Nat × Rat)), St A L → A.length < k → (∃ p ∈ A, lk L p.1 = none) → End (spGo k A L)
  | 0, A, L, s, hn, h => by omega
  | k + 1, A, L, s, hn, h => by
    obtain ⟨p, hp, hpl⟩ := h
    have hA : A ≠ [] := fun z => by rw [z] at hp; cases hp
    unfold spGo
    rw [if_neg hA]
    cases hl : lenOf L (wsum A : Rat) A none with
    | none => exact ⟨[], _, rfl, fun x hx => by cases hx⟩
    | some l =>
      have nn := Ln.of s hA hl
      simp only
      refine End.cons (fun z => by cases z) (spGo_end k _ _ (s.next nn) (by have := keepA_short s nn; omega) ⟨p, List.mem_filter.mpr ⟨hp, ?_⟩, ?_⟩)
      · rw [lk_low, hpl]; rfl
      · rw [lk_keepL (L := lowL L (rt A (wsum A : Rat)) l) (dis_map (fun k c => c - l * rt A (wsum A : Rat) k) s.dL), lk_low, hpl]; rfl
theorem spGo_fin : ∀ (k : Nat) (A : List (Nat × Nat)) (L : List (Nat × Rat)), St A L → (∀ p ∈ A, lk L p.1 ≠ none) → Fin (spGo k A L)
  | 0, A, L, s, h => fun pc hp => by cases hp
  | k + 1, A, L, s, h => by
    unfold spGo
    by_cases hA : A = []
    · rw [if_pos hA]; exact fun pc hp => by cases hp
    · rw [if_neg hA]
      cases hl : lenOf L (wsum A : Rat) A none with
      | none =>
        have hno := ((lenOf_spec hl).1 rfl).2
        cases A with
        | nil => exact absurd rfl hA
        | cons p A => exact absurd (hno p (by simp)) (h p (by simp))
      | some l =>
        have nn := Ln.of s hA hl
        simp only
        intro pc hpc
        rcases List.mem_cons.mp hpc with z | z
        · rw [z]; exact fun e => by cases e
        · refine spGo_fin k _ _ (s.next nn) (fun p hp => ?_) pc z
          have h1 := List.mem_filter.mp hp
          rw [lk_keepL (L := lowL L (rt A (wsum A : Rat)) l) (dis_map (fun k c => c - l * rt A (wsum A : Rat) k) s.dL)]
          have h2 := h1.2
          cases hc : lk (lowL L (rt A (wsum A : Rat)) l) p.1 with
          | none => rw [lk_low] at hc; cases hq : lk L p.1 with
            | none => exact absurd hq (h p h1.1)
            | some c => rw [hq] at hc; cases hc
          | some c => simp only [hc] at h2; have := of_decide_eq_true h2; simp [this]
theorem nodup_le : ∀ {l m : List Nat}, l.Nodup → (∀ a ∈ l, a ∈ m) → l.length ≤ m.length
  | [], _, _, _ => Nat.zero_le _
  | a :: l, m, hn, h => by
    have hn' := List.nodup_cons.mp hn
    have hm := h a (by simp)
    have := nodup_le (l := l) (m := m.erase a) hn'.2 fun b hb => (List.mem_erase_of_ne (fun e => hn'.1 (by rw [← e]; exact hb))).mpr (h b (List.mem_cons_of_mem _ hb))
    rw [List.length_erase_of_mem hm] at this
    have : 0 < m.length := List.length_pos_of_mem hm
    rw [List.length_cons]
    omega
theorem POk.nodup {n m : Nat} {ps : List (Nat × Nat)} (h : POk n m ps) : (ps.map (·.1)).Nodup := by
  unfold List.Nodup
  rw [List.pairwise_map]
  exact h.inc.imp fun z => Nat.ne_of_lt z
theorem endless_iff {n : Nat} {w c : List (Nat × Nat)} (h : (Rung.shares w c).Ok n) : c.length < w.length ↔ ∃ p ∈ w, lk c p.1 = none := by
  obtain ⟨h1, h2, h3, h4⟩ := h
  constructor
  · intro hlt
    refine Classical.byContradiction fun hno => ?_
    have := nodup_le h2.nodup (m := c.map (·.1)) fun a ha => by
      obtain ⟨p, hp, rfl⟩ := List.mem_map.mp ha
      cases hc : lk c p.1 with
      | none => exact absurd ⟨p, hp, hc⟩ hno
      | some v => exact List.mem_map.mpr ⟨_, lk_mem hc, rfl⟩
    rw [List.length_map, List.length_map] at this
    omega
  · rintro ⟨p, hp, hc⟩
    rw [lk_none] at hc
    have := nodup_le h3.nodup (m := (w.map (·.1)).erase p.1) fun a ha => by
      obtain ⟨q, hq, rfl⟩ := List.mem_map.mp ha
      refine (List.mem_erase_of_ne (hc q hq)).mpr ?_
      obtain ⟨r, hr, e⟩ := h4 q hq
      exact List.mem_map.mpr ⟨r, hr, e⟩
    rw [List.length_erase_of_mem (List.mem_map.mpr ⟨p, hp, rfl⟩), List.length_map, List.length_map] at this
    have : 0 < w.length := List.length_pos_of_mem hp
    omega
theorem St.of {n : Nat} {w c : List (Nat × Nat)} (h : (Rung.shares w c).Ok n) : St w (ratC c) := by
  obtain ⟨h1, h2, h3, h4⟩ := h
  refine ⟨h2.dis, dis_map (β := Nat) (fun (_ : Nat) (c : Nat) => (c : Rat)) h3.dis, fun p hp => (h2.el p hp).2.1, fun p hp => ?_, fun p hp => ?_⟩
  · obtain ⟨q, hq, rfl⟩ := List.mem_map.mp hp
    exact Rat.natCast_pos.mpr (h3.el q hq).2.1
  · obtain ⟨q, hq, rfl⟩ := List.mem_map.mp hp
    exact h4 q hq
theorem pcs_ok {n : Nat} {r : Rung} (h : r.Ok n) : ∀ pc ∈ pcs r, PcOk n pc := by
  cases r with
  | fixed s =>
    obtain ⟨h1, h2⟩ := h
    intro pc hp
    rw [List.mem_singleton.mp hp]
    have hw : ∀ p ∈ s, 0 < p.2 := fun p hp => (h2.el p hp).2.1
    exact rt_ok h2.dis (fun p hp => (h2.el p hp).1) hw h1 fun l e => by cases e; exact Rat.natCast_pos.mpr (wsum_pos hw h1)
  | shares w c => exact spGo_ok _ _ _ (St.of h) fun p hp => (h.2.1.el p hp).1
theorem pcs_end {n : Nat} {r : Rung} (h : r.Ok n) (e : r.endless = true) : End (pcs r) := by
  cases r with
  | fixed s => cases e
  | shares w c =>
    obtain ⟨p, hp, hc⟩ := (endless_iff h).mp (of_decide_eq_true e)
    exact spGo_end _ _ _ (St.of h) (by omega) ⟨p, hp, by rw [lk_ratC, hc]; rfl⟩
theorem pcs_fin {n : Nat} {r : Rung} (h : r.Ok n) (e : r.endless = false) : Fin (pcs r) := by
  cases r with
  | fixed s => intro pc hp; rw [List.mem_singleton.mp hp]; exact fun z => by cases z
  | shares w c =>
    refine spGo_fin _ _ _ (St.of h) fun p hp hc => ?_
    have := (endless_iff h).mpr ⟨p, hp, by rw [lk_ratC] at hc; cases hq : lk c p.1 with | none => rfl | some v => rw [hq] at hc; cases hc⟩
    unfold Rung.endless at e
    simp [this] at e
theorem wf_rung {n : Nat} {r : Rung} {x : Rat} (h : r.Ok n) (hx : 0 ≤ x) : WF r.A (ratC r.C) x (ev (pcs r) x) := by
  cases r with
  | shares w c => exact wf_sp w.length w (ratC c) x (St.of h) (Nat.le_refl _) hx
  | fixed s =>
    obtain ⟨h1, h2⟩ := h
    have hw : ∀ p ∈ s, 0 < p.2 := fun p hp => (h2.el p hp).2.1
    have hW : (0 : Rat) < (wsum s : Rat) := Rat.natCast_pos.mpr (wsum_pos hw h1)
    show WF s (ratC s) x (ev [(some (wsum s : Rat), rt s (wsum s : Rat))] x)
    have hsum : ∀ y : Rat, sm s (fun h => rt s (wsum s : Rat) h * y) = y := fun y => by
      rw [sm_mul, sm_rt h2.dis rfl hW]; grind
    by_cases hxl : x ≤ (wsum s : Rat)
    · have e : ev [(some (wsum s : Rat), rt s (wsum s : Rat))] x = fun h => rt s (wsum s : Rat) h * x := by
        funext h; unfold ev; rw [if_pos hxl]
      rw [e]
      have hq : x / (wsum s : Rat) ≤ 1 := by
        rw [← Rat.not_lt, Rat.lt_div_iff hW]; grind
      refine ⟨x / (wsum s : Rat), ?_, fun h => ?_, .inl (hsum x)⟩
      · rw [Rat.div_def]; exact Rat.mul_nonneg hx (Rat.le_of_lt (Rat.inv_pos.mpr hW))
      · unfold mf rt
        rw [lk_ratC]
        cases ha : lk s h with
        | none => simp only; grind
        | some w =>
          have hwx : (w : Rat) / (wsum s : Rat) * x = (w : Rat) * (x / (wsum s : Rat)) := by rw [Rat.div_def, Rat.div_def]; grind
          have := mul_mono (w := w) hq
          simp only [Option.map_some, hwx]
          split <;> grind
    · have hxl' := Rat.not_le.mp hxl
      have e : ev [(some (wsum s : Rat), rt s (wsum s : Rat))] x = fun h => rt s (wsum s : Rat) h * (wsum s : Rat) := by
        funext h; unfold ev; rw [if_neg hxl]
        show _ + (0 : Rat) = _
        grind
      rw [e]
      have hd : ∀ w : Nat, (w : Rat) / (wsum s : Rat) * (wsum s : Rat) = (w : Rat) := fun w => Rat.div_mul_cancel (by grind)
      refine ⟨1, by grind, fun h => ?_, .inr ⟨by rw [hsum]; grind, fun p hp => ⟨(p.2 : Rat), by rw [lk_ratC, mem_lk h2.dis hp]; rfl, ?_⟩⟩⟩
      · unfold mf rt
        rw [lk_ratC]
        cases ha : lk s h with
        | none => simp only; grind
        | some w => simp only [Option.map_some, hd]; split <;> grind
      · show rt s (wsum s : Rat) p.1 * (wsum s : Rat) = _
        rw [rt_some (mem_lk h2.dis hp), hd]
/-! evaluation of pieces -/
theorem ev_le {l x : Rat} {r : Nat → Rat} {ps : List Pc} {h : Nat} (hx : x ≤ l) : ev ((some l, r) :: ps) x h = r h * x := by
  show (if x ≤ l then r h * x else r h * l + ev ps (x - l) h) = _
  rw [if_pos hx]
theorem ev_gt {l x : Rat} {r : Nat → Rat} {ps : List Pc} {h : Nat} (hx : ¬ x ≤ l) : ev ((some l, r) :: ps) x h = r h * l + ev ps (x - l) h := by
  show (if x ≤ l then r h * x else r h * l + ev ps (x - l) h) = _
  rw [if_neg hx]
def tot : List Pc → Rat
  | [] => 0
  | (some l, _) :: ps => l + tot ps
  | (none, _) :: ps => tot ps
section
variable {n : Nat} {ps qs : List Pc} {x y : Rat} {h : Nat}
theorem tot_nn : ∀ {ps : List Pc}, (∀ pc ∈ ps, PcOk n pc) → 0 ≤ tot ps
  | [], _ => Rat.le_refl
  | (none, r) :: ps, k => by
    have h1 := tot_nn (ps := ps) fun pc hp => k pc (List.mem_cons_of_mem _ hp)
    exact h1
  | (some l, r) :: ps, k => by
    have h1 := tot_nn (ps := ps) fun pc hp => k pc (List.mem_cons_of_mem _ hp)
    have h2 := (k (some l, r) (by simp)).pos l rfl
    unfold tot; grind
theorem ev_zero : ∀ {ps : List Pc} {h : Nat}, (∀ pc ∈ ps, PcOk n pc) → ev ps 0 h = 0
  | [], _, _ => rfl
  | (none, r) :: ps, h, _ => by show r h * 0 = 0; grind
  | (some l, r) :: ps, h, k => by
    have h2 := (k (some l, r) (by simp)).pos l rfl
    unfold ev; rw [if_pos (by grind)]; grind
theorem ev_nn : ∀ {ps : List Pc} {x : Rat} {h : Nat}, (∀ pc ∈ ps, PcOk n pc) → 0 ≤ x → 0 ≤ ev ps x h
  | [], _, _, _, _ => Rat.le_refl
  | (none, r) :: ps, x, h, k, hx => Rat.mul_nonneg ((k (none, r) (by simp)).nn h) hx
  | (some l, r) :: ps, x, h, k, hx => by
    have h1 := (k (some l, r) (by simp)).nn h
    have h2 := (k (some l, r) (by simp)).pos l rfl
    unfold ev
    split
    · exact Rat.mul_nonneg h1 hx
    · have h3 := ev_nn (ps := ps) (x := x - l) (h := h) (fun pc hp => k pc (List.mem_cons_of_mem _ hp)) (by grind)
      have h4 := Rat.mul_nonneg h1 (Rat.le_of_lt h2)
      grind
theorem ev_mono : ∀ {ps : List Pc} {x y : Rat} {h : Nat}, (∀ pc ∈ ps, PcOk n pc) → 0 ≤ x → x ≤ y → ev ps x h ≤ ev ps y h
  | [], _, _, _, _, _, _ => Rat.le_refl
  | (none, r) :: ps, x, y, h, k, hx, hy => Rat.mul_le_mul_of_nonneg_left hy ((k (none, r) (by simp)).nn h)
  | (some l, r) :: ps, x, y, h, k, hx, hy => by
    have h1 := (k (some l, r) (by simp)).nn h
    simp only at h1
    have k' : ∀ pc ∈ ps, PcOk n pc := fun pc hp => k pc (List.mem_cons_of_mem _ hp)
    unfold ev
    by_cases hxl : x ≤ l
    · rw [if_pos hxl]
      by_cases hyl : y ≤ l
      · rw [if_pos hyl]; exact Rat.mul_le_mul_of_nonneg_left hy h1
      · rw [if_neg hyl]
        have h3 := ev_nn (ps := ps) (x := y - l) (h := h) k' (by grind)
        have h4 := Rat.mul_le_mul_of_nonneg_left (c := r h) hxl h1
        grind
    · rw [if_neg hxl, if_neg (by grind)]
      have := ev_mono (ps := ps) (x := x - l) (y := y - l) (h := h) k' (by grind) (by grind)
      grind
theorem ev_out : ∀ {ps : List Pc} {x : Rat} {h : Nat}, (∀ pc ∈ ps, PcOk n pc) → n ≤ h → ev ps x h = 0
  | [], _, _, _, _ => rfl
  | (none, r) :: ps, x, h, k, hn => by show r h * x = 0; rw [show r h = 0 from (k (none, r) (by simp)).out h hn]; grind
  | (some l, r) :: ps, x, h, k, hn => by
    unfold ev
    rw [show r h = 0 from (k (some l, r) (by simp)).out h hn]
    split
    · grind
    · rw [ev_out (ps := ps) (fun pc hp => k pc (List.mem_cons_of_mem _ hp)) hn]; grind
theorem sn_ev_fin : ∀ {ps : List Pc} {x : Rat}, (∀ pc ∈ ps, PcOk n pc) → Fin ps → 0 ≤ x → sn n (ev ps x) = if x ≤ tot ps then x else tot ps
  | [], x, _, _, hx => by
    have e : ev [] x = fun _ => 0 := rfl
    rw [e, sn_nul]
    show (0 : Rat) = if x ≤ 0 then x else 0
    split <;> grind
  | (none, r) :: ps, x, _, f, _ => absurd rfl (f (none, r) (by simp))
  | (some l, r) :: ps, x, k, f, hx => by
    have k' : ∀ pc ∈ ps, PcOk n pc := fun pc hp => k pc (List.mem_cons_of_mem _ hp)
    have h1 := (k (some l, r) (by simp)).one
    simp only at h1
    have h0 := tot_nn k'
    by_cases hxl : x ≤ l
    · have e : ev ((some l, r) :: ps) x = fun h => r h * x := by funext h; unfold ev; rw [if_pos hxl]
      rw [e, sn_mul, h1]
      unfold tot
      rw [if_pos (by grind)]; grind
    · have e : ev ((some l, r) :: ps) x = fun h => r h * l + ev ps (x - l) h := by funext h; exact ev_gt hxl
      rw [e, sn_add, sn_mul, h1, sn_ev_fin k' (fun pc hp => f pc (List.mem_cons_of_mem _ hp)) (by grind)]
      rw [show tot ((some l, r) :: ps) = l + tot ps from rfl]
      generalize tot ps = t at *
      split <;> split <;> grind
theorem sn_ev_end : ∀ {ps : List Pc} {x : Rat}, (∀ pc ∈ ps, PcOk n pc) → End ps → 0 ≤ x → sn n (ev ps x) = x
  | [], x, _, e, _ => by obtain ⟨qs, r, h, _⟩ := e; simp at h
  | (none, r) :: ps, x, k, _, hx => by
    have h1 := (k (none, r) (by simp)).one
    simp only at h1
    have e : ev ((none, r) :: ps) x = fun h => r h * x := by funext h; unfold ev; rfl
    rw [e, sn_mul, h1]; grind
  | (some l, r) :: ps, x, k, e, hx => by
    have k' : ∀ pc ∈ ps, PcOk n pc := fun pc hp => k pc (List.mem_cons_of_mem _ hp)
    have h1 := (k (some l, r) (by simp)).one
    simp only at h1
    have e' : End ps := by
      obtain ⟨qs, r', h, f⟩ := e
      cases qs with
      | nil => simp at h
      | cons q qs =>
        simp only [List.cons_append, List.cons.injEq] at h
        exact ⟨qs, r', h.2, fun pc hp => f pc (List.mem_cons_of_mem _ hp)⟩
    by_cases hxl : x ≤ l
    · have e : ev ((some l, r) :: ps) x = fun h => r h * x := by funext h; unfold ev; rw [if_pos hxl]
      rw [e, sn_mul, h1]; grind
    · have e : ev ((some l, r) :: ps) x = fun h => r h * l + ev ps (x - l) h := by funext h; exact ev_gt hxl
      rw [e, sn_add, sn_mul, h1, sn_ev_end k' e' (by grind)]
      grind
theorem ev_append : ∀ {ps qs : List Pc} {x : Rat} {h : Nat}, (∀ pc ∈ ps, PcOk n pc) → (∀ pc ∈ qs, PcOk n pc) → Fin ps → 0 ≤ x → ev (ps ++ qs) x h = ev ps x h + ev qs (if x ≤ tot ps then 0 else x - tot ps) h
  | [], qs, x, h, _, kq, _, hx => by
    show ev qs x h = 0 + ev qs (if x ≤ 0 then 0 else x - 0) h
    split
    · rw [show x = 0 by grind]; grind
    · rw [show x - 0 = x by grind]; grind
  | (none, r) :: ps, _, _, _, _, _, f, _ => absurd rfl (f (none, r) (by simp))
  | (some l, r) :: ps, qs, x, h, k, kq, f, hx => by
    have k' : ∀ pc ∈ ps, PcOk n pc := fun pc hp => k pc (List.mem_cons_of_mem _ hp)
    have h0 := tot_nn k'
    rw [List.cons_append]
    by_cases hxl : x ≤ l
    · have e1 : ev ((some l, r) :: (ps ++ qs)) x h = r h * x := by unfold ev; rw [if_pos hxl]
      have e2 : ev ((some l, r) :: ps) x h = r h * x := by unfold ev; rw [if_pos hxl]
      rw [e1, e2, if_pos (by unfold tot; grind), ev_zero kq]; grind
    · have e1 : ev ((some l, r) :: (ps ++ qs)) x h = r h * l + ev (ps ++ qs) (x - l) h := ev_gt hxl
      have e2 : ev ((some l, r) :: ps) x h = r h * l + ev ps (x - l) h := ev_gt hxl
      rw [e1, e2, ev_append k' kq (fun pc hp => f pc (List.mem_cons_of_mem _ hp)) (by grind)]
      have e3 : (if x ≤ tot ((some l, r) :: ps) then 0 else x - tot ((some l, r) :: ps)) = (if x - l ≤ tot ps then 0 else x - l - tot ps) := by
        rw [show tot ((some l, r) :: ps) = l + tot ps from rfl]
        generalize tot ps = t at *
        split <;> split <;> grind
      rw [e3]; grind
end
/-! whole ladders -/
def lpcs : List Rung → List Pc
  | [] => []
  | r :: rs => pcs r ++ (if r.endless = true then [] else lpcs rs)
def Tq (n : Nat) : List Rung → Rat → Nat → Rat
  | [], _, _ => 0
  | r :: rs, x, h => ev (pcs r) x h + Tq n rs (x - sn n (ev (pcs r) x)) h
theorem lpcs_ok {n : Nat} : ∀ {rs : List Rung}, (∀ r ∈ rs, r.Ok n) → ∀ pc ∈ lpcs rs, PcOk n pc
  | [], _, pc, h => by cases h
  | r :: rs, k, pc, h => by
    unfold lpcs at h
    rcases List.mem_append.mp h with z | z
    · exact pcs_ok (k r (by simp)) pc z
    · split at z
      · cases z
      · exact lpcs_ok (fun q hq => k q (List.mem_cons_of_mem _ hq)) pc z
theorem Tq_zero {n : Nat} : ∀ {rs : List Rung} {h : Nat}, (∀ r ∈ rs, r.Ok n) → Tq n rs 0 h = 0
  | [], _, _ => rfl
  | r :: rs, h, k => by
    unfold Tq
    have h1 := pcs_ok (k r (by simp))
    have e : ev (pcs r) 0 = fun _ => 0 := by funext j; exact ev_zero h1
    rw [e, sn_nul, show (0 : Rat) - 0 = 0 by grind, Tq_zero fun q hq => k q (List.mem_cons_of_mem _ hq)]
    grind
theorem Tq_ev {n : Nat} : ∀ {rs : List Rung} {x : Rat} {h : Nat}, (∀ r ∈ rs, r.Ok n) → 0 ≤ x → Tq n rs x h = ev (lpcs rs) x h
  | [], _, _, _, _ => rfl
  | r :: rs, x, h, k, hx => by
    have hr := k r (by simp)
    have k' : ∀ q ∈ rs, q.Ok n := fun q hq => k q (List.mem_cons_of_mem _ hq)
    unfold Tq lpcs
    cases he : r.endless with
    | true =>
      rw [sn_ev_end (pcs_ok hr) (pcs_end hr he) hx, show x - x = 0 by grind, Tq_zero k']
      simp only [if_true, List.append_nil]
      grind
    | false =>
      simp only [Bool.false_eq_true, if_false]
      rw [ev_append (pcs_ok hr) (lpcs_ok k') (pcs_fin hr he) hx, sn_ev_fin (pcs_ok hr) (pcs_fin hr he) hx]
      by_cases hxt : x ≤ tot (pcs r)
      · rw [if_pos hxt, if_pos hxt, show x - x = 0 by grind, Tq_zero k', ev_zero (lpcs_ok k')]
      · rw [if_neg hxt, if_neg hxt, Tq_ev k' (by grind)]
theorem lpcs_end {n : Nat} : ∀ {rs : List Rung}, (∀ r ∈ rs, r.Ok n) → (∃ r ∈ rs, r.endless = true) → End (lpcs rs)
  | [], _, h => by obtain ⟨r, hr, _⟩ := h; cases hr
  | r :: rs, k, h => by
    have hr := k r (by simp)
    unfold lpcs
    cases he : r.endless with
    | true => simp only [if_true, List.append_nil]; exact pcs_end hr he
    | false =>
      simp only [Bool.false_eq_true, if_false]
      obtain ⟨qs, u, e, f⟩ := lpcs_end (rs := rs) (fun q hq => k q (List.mem_cons_of_mem _ hq)) (by
        obtain ⟨q, hq, hqe⟩ := h
        rcases List.mem_cons.mp hq with z | z
        · rw [z, he] at hqe; cases hqe
        · exact ⟨q, z, hqe⟩)
      refine ⟨pcs r ++ qs, u, by rw [e, List.append_assoc], fun pc hp => ?_⟩
      rcases List.mem_append.mp hp with z | z
      · exact pcs_fin hr he pc z
      · exact f pc z
/-! bends -/
abbrev Row := Rat × Rat × Rat
def addR (acc : List Row) (s p r : Rat) : List Row := match acc.getLast? with
  | none => acc ++ [(s, p, r)]
  | some b => if b.2.2 = r then acc else acc ++ [(s, p, r)]
def bgo (h : Nat) : List Pc → List Row → Rat → Rat → List Row
  | [], acc, _, _ => acc
  | (o, r) :: ps, acc, s, p => match o with
    | none => bgo h ps (addR acc s p (r h)) s p
    | some l => bgo h ps (addR acc s p (r h)) (s + l) (p + l * r h)
def upTo (rows : List Row) (x : Rat) : List Row := rows.filter fun r => !decide (x < r.1)
def payR (rows : List Row) (x : Rat) : Rat := match (upTo rows x).getLast? with
  | some b => b.2.1 + b.2.2 * (x - b.1)
  | none => 0
structure RInv (acc : List Row) (s p : Rat) : Prop where
  st : ∀ b ∈ acc, b.1 ≤ s
  ln : ∀ b, acc.getLast? = some b → p = b.2.1 + b.2.2 * (s - b.1)
theorem addR_inv {acc : List Row} {s p r : Rat} (i : RInv acc s p) : RInv (addR acc s p r) s p ∧ ∃ b, (addR acc s p r).getLast? = some b ∧ b.2.2 = r := by
  unfold addR
  have hnew : RInv (acc ++ [(s, p, r)]) s p := ⟨fun b hb => by
    rcases List.mem_append.mp hb with z | z
    · exact i.st b z
    · rw [List.mem_singleton.mp z]; exact Rat.le_refl, fun b hb => by
    rw [List.getLast?_append] at hb
    simp at hb
    subst hb
    simp only; grind⟩
  split
  · exact ⟨hnew, (s, p, r), by simp, rfl⟩
  · rename_i b hb
    split
    · rename_i hr; exact ⟨i, b, hb, hr⟩
    · exact ⟨hnew, (s, p, r), by simp, rfl⟩
theorem addR_ext (acc : List Row) (s p r : Rat) : ∃ m, addR acc s p r = acc ++ m ∧ ∀ b ∈ m, b.1 = s := by
  unfold addR
  split
  · exact ⟨_, rfl, fun b hb => by rw [List.mem_singleton.mp hb]⟩
  · split
    · exact ⟨[], by simp, fun b hb => by cases hb⟩
    · exact ⟨_, rfl, fun b hb => by rw [List.mem_singleton.mp hb]⟩
theorem bgo_ext {n h : Nat} : ∀ (ps : List Pc) (acc : List Row) (s p : Rat), (∀ pc ∈ ps, PcOk n pc) → ∃ m, bgo h ps acc s p = acc ++ m ∧ ∀ b ∈ m, s ≤ b.1
  | [], acc, s, p, _ => ⟨[], by simp [bgo], fun b hb => by cases hb⟩
  | (o, r) :: ps, acc, s, p, k => by
    have k' : ∀ pc ∈ ps, PcOk n pc := fun pc hp => k pc (List.mem_cons_of_mem _ hp)
    obtain ⟨m1, e1, h1⟩ := addR_ext acc s p (r h)
    cases o with
    | none =>
      obtain ⟨m, e, hm⟩ := bgo_ext ps (addR acc s p (r h)) s p k'
      refine ⟨m1 ++ m, by show bgo h ps (addR acc s p (r h)) s p = _; rw [e, e1, List.append_assoc], fun b hb => ?_⟩
      rcases List.mem_append.mp hb with z | z
      · rw [h1 b z]; exact Rat.le_refl
      · exact hm b z
    | some l =>
      have hl := (k (some l, r) (by simp)).pos l rfl
      obtain ⟨m, e, hm⟩ := bgo_ext ps (addR acc s p (r h)) (s + l) (p + l * r h) k'
      refine ⟨m1 ++ m, by show bgo h ps (addR acc s p (r h)) (s + l) (p + l * r h) = _; rw [e, e1, List.append_assoc], fun b hb => ?_⟩
      rcases List.mem_append.mp hb with z | z
      · rw [h1 b z]; exact Rat.le_refl
      · have := hm b z; grind
theorem payR_last {acc : List Row} {s p x : Rat} {b : Row} (i : RInv acc s p) (hb : acc.getLast? = some b) (hx : s ≤ x) : payR acc x = p + b.2.2 * (x - s) := by
  have e : upTo acc x = acc := by
    unfold upTo
    rw [List.filter_eq_self]
    intro c hc
    have := i.st c hc
    simp; exact Rat.not_lt.mpr (by grind)
  unfold payR
  rw [e, hb]
  have := i.ln b hb
  simp only
  grind
theorem payR_ext {acc m : List Row} {x : Rat} (h : ∀ b ∈ m, x < b.1) : payR (acc ++ m) x = payR acc x := by
  unfold payR upTo
  rw [List.filter_append, show (m.filter fun r => !decide (x < r.1)) = [] by
    rw [List.filter_eq_nil_iff]; intro b hb; simp [h b hb], List.append_nil]
theorem bgo_pay {n h : Nat} : ∀ (ps : List Pc) (acc : List Row) (s p x : Rat), (∀ pc ∈ ps, PcOk n pc) → End ps → RInv acc s p → s ≤ x → payR (bgo h ps acc s p) x = p + ev ps (x - s) h
  | [], _, _, _, _, _, e, _, _ => by obtain ⟨qs, r, h, _⟩ := e; simp at h
  | (none, r) :: ps, acc, s, p, x, k, e, i, hx => by
    have hps : ps = [] := by
      obtain ⟨qs, r', h, f⟩ := e
      cases qs with
      | nil => simp at h; exact h.2
      | cons q qs =>
        simp only [List.cons_append, List.cons.injEq] at h
        exact absurd (by rw [← h.1]) (f q (by simp))
    subst hps
    obtain ⟨i2, b, hb, hr⟩ := addR_inv (r := r h) i
    show payR (addR acc s p (r h)) x = p + r h * (x - s)
    rw [payR_last i2 hb hx, hr]
  | (some l, r) :: ps, acc, s, p, x, k, e, i, hx => by
    have k' : ∀ pc ∈ ps, PcOk n pc := fun pc hp => k pc (List.mem_cons_of_mem _ hp)
    have e' : End ps := by
      obtain ⟨qs, r', h, f⟩ := e
      cases qs with
      | nil => simp at h
      | cons q qs =>
        simp only [List.cons_append, List.cons.injEq] at h
        exact ⟨qs, r', h.2, fun pc hp => f pc (List.mem_cons_of_mem _ hp)⟩
    have hl := (k (some l, r) (by simp)).pos l rfl
    obtain ⟨i2, b, hb, hr⟩ := addR_inv (r := r h) i
    show payR (bgo h ps (addR acc s p (r h)) (s + l) (p + l * r h)) x = _
    by_cases hxl : s + l ≤ x
    · have i3 : RInv (addR acc s p (r h)) (s + l) (p + l * r h) := ⟨fun c hc => by have := i2.st c hc; grind, fun c hc => by
        have := i2.ln c hc
        rw [hb] at hc
        cases hc
        rw [this, hr]
        grind⟩
      rw [bgo_pay ps _ _ _ x k' e' i3 hxl]
      by_cases hq : x - s ≤ l
      · rw [ev_le hq, show x - (s + l) = 0 by grind, show x - s = l by grind, ev_zero k']; grind
      · rw [ev_gt hq, show x - (s + l) = x - s - l by grind]; grind
    · obtain ⟨m, em, hm⟩ := bgo_ext (h := h) ps (addR acc s p (r h)) (s + l) (p + l * r h) k'
      rw [em, payR_ext (fun b hb => by have := hm b hb; grind), payR_last i2 hb hx, hr]
      rw [ev_le (by grind)]
/-- the rows of a holder -/
def rowsL (rs : List Rung) (h : Nat) : List Row := bgo h (lpcs rs) [] 0 0
theorem rows_pay {n : Nat} {rs : List Rung} {h : Nat} {x : Rat} (k : ∀ r ∈ rs, r.Ok n) (e : ∃ r ∈ rs, r.endless = true) (hx : 0 ≤ x) : payR (rowsL rs h) x = ev (lpcs rs) x h := by
  unfold rowsL
  rw [bgo_pay _ _ _ _ _ (lpcs_ok k) (lpcs_end k e) ⟨fun b hb => (by cases hb), fun b hb => (by cases hb)⟩ hx, show x - 0 = x by grind]
  grind
end Mx

/-! few bits: the numbers of a ladder's pieces -/
namespace Mx
open Sx (Bd mkRat_bd Bd.nat)
/-- the state of a rung's pieces at the level t -/
structure Lev (A0 C : List (Nat × Nat)) (t : Rat) (A : List (Nat × Nat)) (L : List (Nat × Rat)) : Prop where
  lA : ∀ h w, lk A0 h = some w → lk A h = match lk C h with
    | none => some w
    | some c => if (w : Rat) * t < (c : Rat) then some w else none
  lL : ∀ h w, lk A0 h = some w → lk L h = match lk C h with
    | none => none
    | some c => if (w : Rat) * t < (c : Rat) then some ((c : Rat) - (w : Rat) * t) else none
  oA : ∀ h, lk A0 h = none → lk A h = none
  oL : ∀ h, lk A0 h = none → lk L h = none
def Lvl (A0 C : List (Nat × Nat)) (t : Rat) : Prop := t = 0 ∨ ∃ h w c, lk A0 h = some w ∧ lk C h = some c ∧ t = (c : Rat) / (w : Rat)
theorem Lev.next {A0 C A : List (Nat × Nat)} {L : List (Nat × Rat)} {t l : Rat} (v : Lev A0 C t A L) (s : St A L) (n : Ln A L l) (hA : A ≠ []) (hw0 : ∀ p ∈ A0, 0 < p.2) :
    Lev A0 C (t + l / (wsum A : Rat)) (keepA (lowL L (rt A (wsum A : Rat)) l) A) (keepL (lowL L (rt A (wsum A : Rat)) l)) ∧ Lvl A0 C (t + l / (wsum A : Rat)) ∧
    ∀ h, mf A0 (ratC C) (t + l / (wsum A : Rat)) h = mf A0 (ratC C) t h + l * rt A (wsum A : Rat) h := by
  have hW := s.W hA
  have dlow : Dis (lowL L (rt A (wsum A : Rat)) l) := dis_map (fun k c => c - l * rt A (wsum A : Rat) k) s.dL
  have hlW : (0 : Rat) < l / (wsum A : Rat) := div_pos n.pos hW
  have hwl : ∀ w : Nat, (w : Rat) * (l / (wsum A : Rat)) = l * ((w : Rat) / (wsum A : Rat)) := fun w => by rw [Rat.div_def, Rat.div_def]; grind
  have hd : ∀ w : Nat, (w : Rat) * (t + l / (wsum A : Rat)) = (w : Rat) * t + l * ((w : Rat) / (wsum A : Rat)) := fun w => by rw [Rat.mul_add, hwl]
  refine ⟨⟨fun h w e => ?_, fun h w e => ?_, fun h e => ?_, fun h e => ?_⟩, ?_, fun h => ?_⟩
  · have a := v.lA h w e
    have b := v.lL h w e
    rw [lk_keepA s.dA, lk_low, a, b]
    cases hc : lk C h with
    | none => rfl
    | some c =>
      simp only
      rw [hc] at a b
      by_cases hlt : (w : Rat) * t < (c : Rat)
      · simp only [hlt, if_true] at a b ⊢
        have hle := n.le h w _ a b
        rw [rt_some a]
        simp only [Option.map_some, Option.bind_some, hd]
        split <;> split <;> first | rfl | (exfalso; grind)
      · have hmm := mul_mono (w := w) (show t ≤ t + l / (wsum A : Rat) by grind)
        simp only [hlt, if_false]
        rw [if_neg (by grind)]
        rfl
  · have a := v.lA h w e
    have b := v.lL h w e
    rw [lk_keepL dlow, lk_low, b]
    cases hc : lk C h with
    | none => rfl
    | some c =>
      simp only
      rw [hc] at a b
      by_cases hlt : (w : Rat) * t < (c : Rat)
      · simp only [hlt, if_true] at a b ⊢
        have hle := n.le h w _ a b
        rw [rt_some a]
        simp only [Option.map_some, Option.bind_some, hd]
        split <;> split <;> first | (congr 1; grind) | rfl | (exfalso; grind)
      · have hmm := mul_mono (w := w) (show t ≤ t + l / (wsum A : Rat) by grind)
        simp only [hlt, if_false]
        rw [if_neg (by grind)]
        rfl
  · rw [lk_keepA s.dA, v.oA h e]; rfl
  · rw [lk_keepL dlow, lk_low, v.oL h e]; rfl
  · obtain ⟨h, w, c, h1, h2, h3⟩ := n.ex
    cases e : lk A0 h with
    | none => rw [v.oA h e] at h1; cases h1
    | some w0 =>
      have a := v.lA h w0 e
      have b := v.lL h w0 e
      rw [h1] at a
      rw [h2] at b
      cases hc : lk C h with
      | none => rw [hc] at b; cases b
      | some c0 =>
        rw [hc] at a b
        by_cases hlt : (w0 : Rat) * t < (c0 : Rat)
        · simp only [hlt, if_true] at a b
          cases a
          cases b
          have hwp : (0 : Rat) < (w : Rat) := Rat.natCast_pos.mpr (hw0 (h, w) (lk_mem e))
          refine .inr ⟨h, w, c0, e, hc, ?_⟩
          have := hd w
          have e3 : (w : Rat) * (t + l / (wsum A : Rat)) = (c0 : Rat) := by rw [this, h3]; grind
          rw [← e3, Rat.mul_comm]
          exact (Rat.mul_div_cancel (by grind)).symm
        · simp only [hlt, if_false] at a; cases a
  · unfold mf
    rw [lk_ratC]
    cases e : lk A0 h with
    | none => rw [rt_none (v.oA h e)]; simp only; grind
    | some w =>
      have a := v.lA h w e
      have b := v.lL h w e
      cases hc : lk C h with
      | none =>
        rw [hc] at a
        simp only [Option.map_none]
        rw [rt_some a, hd]
      | some c =>
        rw [hc] at a b
        simp only [Option.map_some]
        by_cases hlt : (w : Rat) * t < (c : Rat)
        · simp only [hlt, if_true] at a b
          have hle := n.le h w _ a b
          rw [rt_some a, hd]
          split <;> split <;> grind
        · simp only [hlt, if_false] at a
          have hmm := mul_mono (w := w) (show t ≤ t + l / (wsum A : Rat) by grind)
          rw [rt_none a]
          split <;> split <;> grind
theorem Lev.start {n : Nat} {w c : List (Nat × Nat)} (h : (Rung.shares w c).Ok n) : Lev w c 0 w (ratC c) := by
  refine ⟨fun k v e => ?_, fun k v e => ?_, fun k e => e, fun k e => ?_⟩
  · cases hc : lk c k with
    | none => exact e
    | some x =>
      have := (h.2.2.1.el _ (lk_mem hc)).2.1
      have : (0 : Rat) < (x : Rat) := Rat.natCast_pos.mpr this
      simp only
      rw [if_pos (by grind)]; exact e
  · rw [lk_ratC]
    cases hc : lk c k with
    | none => rfl
    | some x =>
      have := (h.2.2.1.el _ (lk_mem hc)).2.1
      have : (0 : Rat) < (x : Rat) := Rat.natCast_pos.mpr this
      simp only [Option.map_some]
      rw [if_pos (by grind)]; congr 1; grind
  · rw [lk_ratC]
    cases hc : lk c k with
    | none => rfl
    | some x =>
      obtain ⟨q, hq, e2⟩ := h.2.2.2 _ (lk_mem hc)
      rw [lk_none] at e
      exact absurd e2 (e q hq)
theorem mf_zero {A : List (Nat × Nat)} {C : List (Nat × Nat)} (hC : ∀ p ∈ C, 0 < p.2) (h : Nat) : mf A (ratC C) 0 h = 0 := by
  unfold mf
  rw [lk_ratC]
  cases lk A h with
  | none => rfl
  | some w =>
    cases hc : lk C h with
    | none => simp only [Option.map_none]; grind
    | some c =>
      have : (0 : Rat) < (c : Rat) := Rat.natCast_pos.mpr (hC _ (lk_mem hc))
      simp only [Option.map_some]
      split <;> grind
/-! a number with a denominator of at most 20 -/
theorem bd_frac {a b k : Nat} (hb : 0 < b) (ha : a < 2 ^ k) (hbk : b < 2 ^ k) : Bd k ((a : Rat) / (b : Rat)) := by
  have := mkRat_bd (n := (a : Int)) (d := b) (k := k) (by rw [Int.natAbs_natCast]; exact ha) hbk (by omega)
  rw [Rat.mkRat_eq_div] at this
  exact this
theorem bd_fracI {a : Int} {b k : Nat} (hb : 0 < b) (ha : a.natAbs < 2 ^ k) (hbk : b < 2 ^ k) : Bd k ((a : Rat) / (b : Rat)) := by
  have := mkRat_bd (n := a) (d := b) (k := k) ha hbk (by omega)
  rw [Rat.mkRat_eq_div] at this
  exact this
/-- a level as a fraction -/
def Lab (t : Rat) (a b : Nat) : Prop := 0 < b ∧ b ≤ 20 ∧ a ≤ 999 ∧ t * (b : Rat) = (a : Rat)
theorem Lvl.ab {n : Nat} {w c : List (Nat × Nat)} {t : Rat} (k : (Rung.shares w c).Ok n) (h : Lvl w c t) : ∃ a b, Lab t a b := by
  rcases h with h | ⟨j, x, y, h1, h2, h3⟩
  · exact ⟨0, 1, by decide, by decide, by decide, by rw [h]; grind⟩
  · have e1 := k.2.1.el _ (lk_mem h1)
    have e2 := k.2.2.1.el _ (lk_mem h2)
    refine ⟨y, x, e1.2.1, e1.2.2, e2.2.2, ?_⟩
    rw [h3]
    exact Rat.div_mul_cancel (by have : (0 : Rat) < (x : Rat) := Rat.natCast_pos.mpr e1.2.1; grind)
theorem mf_ab {n : Nat} {w c : List (Nat × Nat)} {t : Rat} {a b : Nat} (k : (Rung.shares w c).Ok n) (h : Lab t a b) (j : Nat) : ∃ m : Nat, m ≤ 19980 ∧ mf w (ratC c) t j * (b : Rat) = (m : Rat) := by
  obtain ⟨h1, h2, h3, h4⟩ := h
  unfold mf
  rw [lk_ratC]
  cases hw : lk w j with
  | none => exact ⟨0, by decide, by simp only; grind⟩
  | some x =>
    have e1 := (k.2.1.el _ (lk_mem hw)).2.2
    have hm : x * a ≤ 19980 := Nat.le_trans (Nat.mul_le_mul e1 h3) (by decide)
    have hx : (x : Rat) * t * (b : Rat) = ((x * a : Nat) : Rat) := by rw [Rat.natCast_mul, ← h4]; grind
    cases hc : lk c j with
    | none => exact ⟨x * a, hm, by simp only [Option.map_none]; exact hx⟩
    | some y =>
      have e2 := (k.2.2.1.el _ (lk_mem hc)).2.2
      simp only [Option.map_some]
      split
      · exact ⟨y * b, Nat.le_trans (Nat.mul_le_mul e2 h2) (by decide), by rw [Rat.natCast_mul]⟩
      · exact ⟨x * a, hm, hx⟩
theorem sn_ab {n : Nat} {w c : List (Nat × Nat)} {t : Rat} {a b : Nat} (k : (Rung.shares w c).Ok n) (h : Lab t a b) : ∀ j : Nat, ∃ m : Nat, m ≤ 19980 * j ∧ sn j (mf w (ratC c) t) * (b : Rat) = (m : Rat)
  | 0 => ⟨0, by decide, by rw [sn_zero]; grind⟩
  | j + 1 => by
    obtain ⟨m, h1, h2⟩ := sn_ab k h j
    obtain ⟨m', h3, h4⟩ := mf_ab k h j
    refine ⟨m + m', by omega, ?_⟩
    rw [sn_succ, Rat.natCast_add, ← h2, ← h4]; grind
theorem eq_div {q : Rat} {m b : Nat} (hb : 0 < b) (h : q * (b : Rat) = (m : Rat)) : q = (m : Rat) / (b : Rat) := by
  have : (0 : Rat) < (b : Rat) := Rat.natCast_pos.mpr hb
  rw [← h]
  exact (Rat.mul_div_cancel (by grind)).symm
/-- what a loop over pieces meets: few bits in all -/
def Gd (h : Nat) : Rat → Rat → List Pc → Prop
  | s, p, [] => Bd 24 s ∧ Bd 24 p
  | s, p, (none, r) :: ps => Bd 24 s ∧ Bd 24 p ∧ Bd 13 (r h) ∧ ps = []
  | s, p, (some l, r) :: ps => Bd 24 s ∧ Bd 24 p ∧ Bd 13 (r h) ∧ Bd 24 l ∧ Gd h (s + l) (p + l * r h) ps
theorem wsum_le {m : Nat} : ∀ {A : List (Nat × Nat)}, (∀ p ∈ A, p.2 ≤ m) → wsum A ≤ m * A.length
  | [], _ => Nat.zero_le _
  | p :: A, h => by
    rw [wsum_cons, List.length_cons, Nat.mul_succ]
    have := h p (by simp)
    have := wsum_le (A := A) fun q hq => h q (List.mem_cons_of_mem _ hq)
    omega
theorem pok_len {n m : Nat} {ps : List (Nat × Nat)} (h : POk n m ps) : ps.length ≤ n := by
  have := nodup_le h.nodup (m := List.range n) fun a ha => by
    obtain ⟨p, hp, rfl⟩ := List.mem_map.mp ha
    exact List.mem_range.mpr (h.el p hp).1
  rw [List.length_map, List.length_range] at this
  exact this
theorem gd_sp {n h : Nat} {w c : List (Nat × Nat)} (k : (Rung.shares w c).Ok n) (hn : n ≤ 5) (S0 P0 : Nat) (hS : S0 ≤ 20000) (hP : P0 ≤ 4000) (qs : List Pc) : ∀ (m : Nat) (A : List (Nat × Nat)) (L : List (Nat × Rat)) (t : Rat), St A L → Lev w c t A L → Lvl w c t → (∀ p ∈ A, p ∈ w) → A.length < m →
    ((∀ p ∈ w, lk c p.1 ≠ none) → Gd h ((S0 : Rat) + sn n (fun j => (capR c j : Rat))) ((P0 : Rat) + (capR c h : Rat)) qs) → ((∃ p ∈ w, lk c p.1 = none) → qs = []) →
    Gd h ((S0 : Rat) + sn n (mf w (ratC c) t)) ((P0 : Rat) + mf w (ratC c) t h) (spGo m A L ++ qs)
  | 0, A, L, t, s, v, hv, hsub, hm, hq, hq2 => by omega
  | m + 1, A, L, t, s, v, hv, hsub, hm, hq, hq2 => by
    obtain ⟨a, b, hab⟩ := hv.ab k
    obtain ⟨u, hu, eu⟩ := sn_ab k hab n
    obtain ⟨u', hu', eu'⟩ := mf_ab k hab h
    obtain ⟨hb0, hb20, ha, ht⟩ := hab
    have bs : Bd 24 ((S0 : Rat) + sn n (mf w (ratC c) t)) := by
      have e : (S0 : Rat) + sn n (mf w (ratC c) t) = ((S0 * b + u : Nat) : Rat) / (b : Rat) := eq_div hb0 (by rw [Rat.natCast_add, Rat.natCast_mul, ← eu]; grind)
      rw [e]
      have h1 : S0 * b ≤ 20000 * 20 := Nat.mul_le_mul hS hb20
      have h2 : 19980 * n ≤ 19980 * 5 := Nat.mul_le_mul_left _ hn
      exact bd_frac hb0 (by omega) (by omega)
    have bp : Bd 24 ((P0 : Rat) + mf w (ratC c) t h) := by
      have e : (P0 : Rat) + mf w (ratC c) t h = ((P0 * b + u' : Nat) : Rat) / (b : Rat) := eq_div hb0 (by rw [Rat.natCast_add, Rat.natCast_mul, ← eu']; grind)
      rw [e]
      have h1 : P0 * b ≤ 4000 * 20 := Nat.mul_le_mul hP hb20
      exact bd_frac hb0 (by omega) (by omega)
    have hAw : ∀ p ∈ A, p.2 ≤ 20 := fun p hp => (k.2.1.el p (hsub p hp)).2.2
    have hAlen : A.length ≤ 5 := by
      have hA' : POk n 20 w := k.2.1
      have := nodup_le (l := A.map (·.1)) (m := List.range n) (by
        unfold List.Nodup
        rw [List.pairwise_map]
        exact s.dA) fun a ha => by
          obtain ⟨p, hp, rfl⟩ := List.mem_map.mp ha
          exact List.mem_range.mpr (hA'.el p (hsub p hp)).1
      rw [List.length_map, List.length_range] at this
      omega
    have hWle : wsum A ≤ 100 := by
      have := wsum_le hAw
      have : 20 * A.length ≤ 20 * 5 := Nat.mul_le_mul_left _ hAlen
      omega
    unfold spGo
    by_cases hA : A = []
    · rw [if_pos hA]
      have hall : ∀ p ∈ w, ∃ x, lk c p.1 = some x ∧ ¬ ((p.2 : Rat) * t < (x : Rat)) := fun p hp => by
        have := v.lA p.1 p.2 (mem_lk k.2.1.dis hp)
        rw [hA] at this
        cases hc : lk c p.1 with
        | none => rw [hc] at this; cases this
        | some x =>
          rw [hc] at this
          refine ⟨x, rfl, fun hlt => ?_⟩
          simp only [hlt, if_true] at this
          cases this
      have hmf : ∀ j, mf w (ratC c) t j = (capR c j : Rat) := fun j => by
        unfold mf capR
        rw [lk_ratC]
        cases hw : lk w j with
        | none =>
          cases hc : lk c j with
          | none => rfl
          | some x =>
            obtain ⟨q, hq, e2⟩ := k.2.2.2 _ (lk_mem hc)
            rw [lk_none] at hw
            exact absurd e2 (hw q hq)
        | some x =>
          obtain ⟨y, h1, h2⟩ := hall (j, x) (lk_mem hw)
          simp only at h1 h2
          rw [h1]
          simp only [Option.map_some]
          rw [if_pos (Rat.not_lt.mp h2)]
          rfl
      rw [List.nil_append, hmf h, show mf w (ratC c) t = fun j => (capR c j : Rat) from funext hmf]
      exact hq fun p hp => by obtain ⟨x, hx, _⟩ := hall p hp; rw [hx]; exact fun z => nomatch z
    · rw [if_neg hA]
      have hW := s.W hA
      have hWn : 0 < wsum A := wsum_pos s.wp hA
      have br : Bd 13 (rt A (wsum A : Rat) h) := by
        unfold rt
        cases hl : lk A h with
        | none => exact (show Bd 13 (0 : Rat) from ⟨by decide, by decide⟩)
        | some x =>
          have := hAw _ (lk_mem hl)
          exact bd_frac hWn (by omega) (by omega)
      cases hl : lenOf L (wsum A : Rat) A none with
      | none =>
        simp only [List.cons_append, List.nil_append]
        have hno := ((lenOf_spec hl).1 rfl).2
        refine ⟨bs, bp, br, hq2 ?_⟩
        cases hA2 : A with
        | nil => exact absurd hA2 hA
        | cons p A' =>
          have hp : p ∈ A := by rw [hA2]; simp
          have hpw := mem_lk k.2.1.dis (hsub p hp)
          have h1 := v.lL p.1 p.2 hpw
          have h2 := v.lA p.1 p.2 hpw
          rw [hno p hp] at h1
          rw [mem_lk s.dA hp] at h2
          refine ⟨p, hsub p hp, ?_⟩
          cases hc : lk c p.1 with
          | none => rfl
          | some x =>
            rw [hc] at h1 h2
            by_cases hlt : (p.2 : Rat) * t < (x : Rat)
            · simp only [hlt, if_true] at h1; cases h1
            · simp only [hlt, if_false] at h2; cases h2
      | some l =>
        have nn := Ln.of s hA hl
        obtain ⟨v2, hv2, hmf⟩ := v.next s nn hA (fun p hp => (k.2.1.el p hp).2.1)
        have bl : Bd 24 l := by
          obtain ⟨a', b', hb0', hb20', ha', ht'⟩ := hv2.ab k
          have e : l = (((wsum A : Int) * ((a' : Int) * b - (a : Int) * b') : Int) : Rat) / ((b * b' : Nat) : Rat) := by
            have hbp : (0 : Rat) < (b : Rat) := Rat.natCast_pos.mpr hb0
            have hbp' : (0 : Rat) < (b' : Rat) := Rat.natCast_pos.mpr hb0'
            have hlw : l = (wsum A : Rat) * (t + l / (wsum A : Rat) - t) := by
              rw [show t + l / (wsum A : Rat) - t = l / (wsum A : Rat) by grind, Rat.mul_comm]
              exact (Rat.div_mul_cancel (by grind)).symm
            generalize t + l / (wsum A : Rat) = t2 at hlw ht'
            have : l * ((b * b' : Nat) : Rat) = (((wsum A : Int) * ((a' : Int) * b - (a : Int) * b') : Int) : Rat) := by
              rw [Rat.intCast_mul, Rat.intCast_sub, Rat.intCast_mul, Rat.intCast_mul, Rat.natCast_mul]
              rw [Rat.intCast_natCast, Rat.intCast_natCast, Rat.intCast_natCast, Rat.intCast_natCast, Rat.intCast_natCast, ← ht, ← ht', hlw]
              grind
            rw [← this]
            exact (Rat.mul_div_cancel (by have := Rat.mul_pos hbp hbp'; rw [Rat.natCast_mul]; grind)).symm
          rw [e]
          have hbb : b * b' ≤ 20 * 20 := Nat.mul_le_mul hb20 hb20'
          have hab1 : a' * b ≤ 999 * 20 := Nat.mul_le_mul ha' hb20
          have hab2 : a * b' ≤ 999 * 20 := Nat.mul_le_mul ha hb20'
          refine bd_fracI (Nat.mul_pos hb0 hb0') ?_ (by omega)
          rw [Int.natAbs_mul]
          have h1 : ((a' : Int) * b - (a : Int) * b').natAbs ≤ 19980 := by
            have e1 : (a' : Int) * b = ((a' * b : Nat) : Int) := by simp
            have e2 : (a : Int) * b' = ((a * b' : Nat) : Int) := by simp
            rw [e1, e2]; omega
          have h2 : ((wsum A : Nat) : Int).natAbs ≤ 100 := by omega
          exact Nat.lt_of_le_of_lt (Nat.mul_le_mul h2 h1) (by decide)
        simp only [List.cons_append]
        refine ⟨bs, bp, br, bl, ?_⟩
        have ih := gd_sp k hn S0 P0 hS hP qs m _ _ _ (s.next nn) v2 hv2 (fun p hp => hsub p (List.mem_filter.mp hp).1) (by have := keepA_short s nn; omega) hq hq2
        have e1 : (S0 : Rat) + sn n (mf w (ratC c) t) + l = (S0 : Rat) + sn n (mf w (ratC c) (t + l / (wsum A : Rat))) := by
          have : mf w (ratC c) (t + l / (wsum A : Rat)) = fun j => mf w (ratC c) t j + rt A (wsum A : Rat) j * l := by funext j; rw [hmf j]; grind
          rw [this, sn_add, sn_mul, (rt_ok (n := n) (o := none) s.dA (fun p hp => (k.2.1.el p (hsub p hp)).1) s.wp hA (fun l e => by cases e)).one]
          grind
        have e2 : (P0 : Rat) + mf w (ratC c) t h + l * rt A (wsum A : Rat) h = (P0 : Rat) + mf w (ratC c) (t + l / (wsum A : Rat)) h := by rw [hmf h]; grind
        rw [e1, e2]
        exact ih
theorem sn_cap {n m : Nat} {c : List (Nat × Nat)} (h : POk n m c) : ∃ u : Nat, u ≤ m * n ∧ sn n (fun j => (capR c j : Rat)) = (u : Rat) := by
  have : ∀ k : Nat, ∃ u : Nat, u ≤ m * k ∧ sn k (fun j => (capR c j : Rat)) = (u : Rat) := by
    intro k
    induction k with
    | zero => exact ⟨0, by omega, rfl⟩
    | succ k ih =>
      obtain ⟨u, h1, h2⟩ := ih
      refine ⟨u + capR c k, ?_, by rw [sn_succ, h2, Rat.natCast_add]⟩
      have : capR c k ≤ m := by
        unfold capR
        cases hc : lk c k with
        | none => exact Nat.zero_le _
        | some v => exact (h.el _ (lk_mem hc)).2.2
      rw [Nat.mul_succ]; omega
  exact this n
theorem capR_le {n m : Nat} {c : List (Nat × Nat)} (h : POk n m c) (k : Nat) : capR c k ≤ m := by
  unfold capR
  cases hc : lk c k with
  | none => exact Nat.zero_le _
  | some v => exact (h.el _ (lk_mem hc)).2.2
theorem sm_cap {c : List (Nat × Nat)} (d : Dis c) : ∀ {B : List (Nat × Nat)}, (∀ p ∈ B, p ∈ c) → sm B (fun j => (capR c j : Rat)) = (wsum B : Rat)
  | [], _ => rfl
  | p :: B, h => by
    rw [sm_cons, sm_cap d (fun q hq => h q (List.mem_cons_of_mem _ hq)), wsum_cons, Rat.natCast_add]
    unfold capR
    rw [mem_lk d (h p (by simp))]
    rfl
theorem gd_lad {n h : Nat} (hn : n ≤ 5) : ∀ (rs : List Rung) (S0 P0 : Nat), (∀ r ∈ rs, r.Ok n) → S0 + 4995 * rs.length ≤ 20000 → P0 + 999 * rs.length ≤ 4000 → Gd h (S0 : Rat) (P0 : Rat) (lpcs rs)
  | [], S0, P0, _, hS, hP => ⟨Bd.nat (by simp at hS; omega) (by decide), Bd.nat (by simp at hP; omega) (by decide)⟩
  | r :: rs, S0, P0, k, hS, hP => by
    have hr := k r (by simp)
    have k' : ∀ q ∈ rs, q.Ok n := fun q hq => k q (List.mem_cons_of_mem _ hq)
    rw [List.length_cons, Nat.mul_succ] at hS hP
    unfold lpcs
    cases r with
    | fixed s =>
      obtain ⟨h1, h2⟩ := hr
      have hw : ∀ p ∈ s, 0 < p.2 := fun p hp => (h2.el p hp).2.1
      have hWn := wsum_pos hw h1
      have hWr : (0 : Rat) < (wsum s : Rat) := Rat.natCast_pos.mpr hWn
      have hWle : wsum s ≤ 4995 := by
        have a := wsum_le fun p hp => (h2.el p hp).2.2
        have b := pok_len h2
        have : 999 * s.length ≤ 999 * 5 := Nat.mul_le_mul_left _ (by omega)
        omega
      have hcap : (wsum s : Rat) * rt s (wsum s : Rat) h = (capR s h : Rat) := by
        unfold rt capR
        cases lk s h with
        | none => show _ * (0 : Rat) = ((0 : Nat) : Rat); grind
        | some x => simp only; rw [Rat.mul_comm]; exact Rat.div_mul_cancel (by grind)
      have br : Bd 13 (rt s (wsum s : Rat) h) := by
        unfold rt
        cases hl : lk s h with
        | none => exact (show Bd 13 (0 : Rat) from ⟨by decide, by decide⟩)
        | some x =>
          have := (h2.el _ (lk_mem hl)).2.2
          exact bd_frac hWn (by omega) (by omega)
      show Gd h (S0 : Rat) (P0 : Rat) ((some (wsum s : Rat), rt s (wsum s : Rat)) :: lpcs rs)
      refine ⟨Bd.nat (by omega) (by decide), Bd.nat (by omega) (by decide), br, Bd.nat (by omega) (by decide), ?_⟩
      rw [hcap, ← Rat.natCast_add, ← Rat.natCast_add]
      have := capR_le h2 h
      exact gd_lad hn rs _ _ k' (by omega) (by omega)
    | shares w c =>
      have hc : POk n 999 c := hr.2.2.1
      have e1 : (S0 : Rat) = (S0 : Rat) + sn n (mf w (ratC c) 0) := by
        rw [show mf w (ratC c) 0 = fun _ => 0 from funext (mf_zero fun p hp => (hc.el p hp).2.1), sn_nul]; grind
      have e2 : (P0 : Rat) = (P0 : Rat) + mf w (ratC c) 0 h := by rw [mf_zero fun p hp => (hc.el p hp).2.1]; grind
      rw [e1, e2]
      refine gd_sp hr hn S0 P0 (by omega) (by omega) _ _ _ _ 0 (St.of hr) (Lev.start hr) (.inl rfl) (fun _ h => h) (by omega) (fun hall => ?_) fun hex => ?_
      · have he : (Rung.shares w c).endless = false := by
          cases he : (Rung.shares w c).endless with
          | false => rfl
          | true =>
            obtain ⟨p, hp, hq⟩ := (endless_iff hr).mp (of_decide_eq_true he)
            exact absurd hq (hall p hp)
        rw [he]
        simp only [Bool.false_eq_true, if_false]
        obtain ⟨u, hu, eu⟩ := sn_cap hc
        have := capR_le hc h
        rw [eu, ← Rat.natCast_add, ← Rat.natCast_add]
        have : 999 * n ≤ 999 * 5 := Nat.mul_le_mul_left _ hn
        exact gd_lad hn rs _ _ k' (by omega) (by omega)
      · have he : (Rung.shares w c).endless = true := decide_eq_true ((endless_iff hr).mpr hex)
        rw [he]; rfl
/-- ladders -/
structure Lad where
  n : Nat
  rs : List Rung
structure Lad.Ok (l : Lad) : Prop where
  n1 : 1 ≤ l.n
  n5 : l.n ≤ 5
  r1 : l.rs ≠ []
  r4 : l.rs.length ≤ 4
  ok : ∀ r ∈ l.rs, r.Ok l.n
  en : ∃ r, l.rs.getLast? = some r ∧ r.endless = true
theorem Lad.Ok.ex {l : Lad} (k : l.Ok) : ∃ r ∈ l.rs, r.endless = true := by
  obtain ⟨r, h1, h2⟩ := k.en
  exact ⟨r, List.mem_of_getLast? h1, h2⟩
theorem Lad.Ok.gd {l : Lad} (k : l.Ok) (h : Nat) : Gd h 0 0 (lpcs l.rs) := by
  have h4 := k.r4
  have := gd_lad (h := h) k.n5 l.rs 0 0 k.ok (by omega) (by omega)
  exact this
/-- the payments of a ladder -/
def Lad.T (l : Lad) (x : Rat) (h : Nat) : Rat := ev (lpcs l.rs) x h
end Mx

namespace Sx
open PySem PySem.Spec PyProof.Rows L2 Mx
/-! ### loops and comprehensions over typed lists -/
theorem cL_ty {α : Type} {g : SG} {c : SB} {e : SE} {ρ0 : Sl} {W : Tw} (enc : α → Dt) (b : α → Bool) (v : α → Dt) : ∀ (xs : List α),
    (∀ x ∈ xs, ∃ ρ1, g (enc x) ρ0 = some ρ1 ∧ c ρ1 W = .ok (b x, W) ∧ (b x = true → e ρ1 W = .ok (v x, W))) → cL g c e ρ0 (xs.map enc) W = .ok ((xs.filter b).map v, W)
  | [], _ => rfl
  | x :: xs, h => by
    obtain ⟨ρ1, h1, h2, h3⟩ := h x (by simp)
    have ih := cL_ty enc b v xs fun y hy => h y (List.mem_cons_of_mem _ hy)
    rw [List.map_cons]
    unfold cL
    simp only [h1, h2, nox_ok, Res.bind_ok]
    cases hb : b x with
    | true =>
      simp only [if_true, h3 hb, nox_ok, Res.bind_ok, ih]
      rw [List.filter_cons_of_pos hb, List.map_cons]
    | false =>
      simp only [Bool.false_eq_true, if_false, ih]
      rw [List.filter_cons_of_neg (by simp [hb])]
theorem cL_map {α : Type} {g : SG} {e : SE} {ρ0 : Sl} {W : Tw} (enc : α → Dt) (v : α → Dt) (xs : List α)
    (h : ∀ x ∈ xs, ∃ ρ1, g (enc x) ρ0 = some ρ1 ∧ e ρ1 W = .ok (v x, W)) : cL g bYes e ρ0 (xs.map enc) W = .ok (xs.map v, W) := by
  have := cL_ty (c := bYes) enc (fun _ => true) v xs fun x hx => by
    obtain ⟨ρ1, h1, h2⟩ := h x hx
    exact ⟨ρ1, h1, rfl, fun _ => h2⟩
  rw [this, List.filter_eq_self.mpr fun _ _ => rfl]
theorem fL_inv {α : Type} {g : SG} {body : SS} {W : Tw} (enc : α → Dt) (I : List α → Sl → Prop) : ∀ (xs pre : List α) (ρ : Sl),
    (∀ pre x post ρ, pre ++ x :: post = pre ++ (x :: post) → I pre ρ → (∃ ys, pre ++ x :: post = ys) → x ∈ xs → ∃ ρ1 ρ2, g (enc x) ρ = some ρ1 ∧ body ρ1 W = .nx ρ2 W ∧ I (pre ++ [x]) ρ2) → I pre ρ → ∃ ρ', fL g body (xs.map enc) ρ W = .nx ρ' W ∧ I (pre ++ xs) ρ'
  | [], pre, ρ, _, i => ⟨ρ, rfl, by rw [List.append_nil]; exact i⟩
  | x :: xs, pre, ρ, h, i => by
    obtain ⟨ρ1, ρ2, h1, h2, h3⟩ := h pre x xs ρ rfl i ⟨_, rfl⟩ (by simp)
    obtain ⟨ρ', h4, h5⟩ := fL_inv enc I xs (pre ++ [x]) ρ2 (fun p y q ρ e i2 ex hy => h p y q ρ e i2 ex (List.mem_cons_of_mem _ hy)) h3
    refine ⟨ρ', ?_, by rw [List.append_assoc] at h5; exact h5⟩
    rw [List.map_cons]
    show (match g (enc x) ρ with | none => Out.bad | some ρ1 => match body ρ1 W with | .nx ρ2 W2 => fL g body (xs.map enc) ρ2 W2 | r => r) = _
    rw [h1]
    simp only [h2, h4]
/-- a loop that never leaves: the state after the items so far -/
theorem fL_nx {α : Type} {g : SG} {body : SS} {W : Tw} (enc : α → Dt) (I : List α → Sl → Prop) (xs : List α) (ρ : Sl) (i : I [] ρ)
    (h : ∀ pre x ρ, I pre ρ → x ∈ xs → ∃ ρ1 ρ2, g (enc x) ρ = some ρ1 ∧ body ρ1 W = .nx ρ2 W ∧ I (pre ++ [x]) ρ2) : ∃ ρ', fL g body (xs.map enc) ρ W = .nx ρ' W ∧ I xs ρ' := by
  have := fL_inv (W := W) enc I xs [] ρ (fun p x q ρ _ i2 _ hx => h p x ρ i2 hx) i
  exact this
/-! ### how a ladder is written -/
def pr (p : Nat × Nat) : Dt := .tuple [.int p.1, .int p.2]
def prs (ps : List (Nat × Nat)) : Dt := .tuple (ps.map pr)
def rd : Rung → Dt
  | .fixed s => .tuple [.str "fixed", prs s]
  | .shares w c => .tuple [.str "shares", prs w, prs c]
def ld (l : Lad) : Dt := .tuple [.int l.n, .tuple (l.rs.map rd)]
@[simp] theorem lenD_t {ds : List Dt} : lenD [.tuple ds] = some (.int ds.length) := rfl
@[simp] theorem lenD_l {ds : List Dt} : lenD [.list ds] = some (.int ds.length) := rfl
@[simp] theorem tupleD_l {ds : List Dt} : tupleD [.list ds] = some (.tuple ds) := rfl
@[simp] theorem tupleD_t {ds : List Dt} : tupleD [.tuple ds] = some (.tuple ds) := rfl
@[simp] theorem listL_l {ds : List Dt} : listL [.list ds] = some ds := rfl
@[simp] theorem listL_t {ds : List Dt} : listL [.tuple ds] = some ds := rfl
theorem intsOf_map : ∀ (ns : List Int), intsOf (ns.map PyData.int) = some ns
  | [] => rfl
  | n :: ns => by
    rw [List.map_cons]
    show (intsOf (ns.map PyData.int)).map (n :: ·) = _
    rw [intsOf_map ns]; rfl
theorem blsOf_map : ∀ (ns : List Bool), blsOf (ns.map PyData.bool) = some ns
  | [] => rfl
  | n :: ns => by
    rw [List.map_cons]
    show (blsOf (ns.map PyData.bool)).map (n :: ·) = _
    rw [blsOf_map ns]; rfl
theorem sumD_map {α : Type} (f : α → Int) (xs : List α) : sumD [.list (xs.map fun x => PyData.int (f x))] = some (.int (xs.map f).sum) := by
  have := intsOf_map (xs.map f)
  rw [List.map_map] at this
  show (intsOf (xs.map fun x => PyData.int (f x))).map _ = _
  rw [show (xs.map fun x => PyData.int (f x)) = xs.map (PyData.int ∘ f) from rfl, this]
  rfl
theorem allD_map {α : Type} (f : α → Bool) (xs : List α) : allD [.list (xs.map fun x => PyData.bool (f x))] = some (.bool (xs.all f)) := by
  have := blsOf_map (xs.map f)
  rw [List.map_map] at this
  show (blsOf (xs.map fun x => PyData.bool (f x))).map _ = _
  rw [show (xs.map fun x => PyData.bool (f x)) = xs.map (PyData.bool ∘ f) from rfl, this]
  show some (PyData.bool ((xs.map f).all id)) = _
  rw [List.all_map]
  rfl
@[simp] theorem isi_int_int {i : Int} : isiD "int" (.int i) = some (.bool true) := by rfl
@[simp] theorem isi_int_bool {i : Int} : isiD "bool" (.int i) = some (.bool false) := by rfl
@[simp] theorem isi_tup {ds : List Dt} : isiD "tuple" (.tuple ds) = some (.bool true) := by rfl
@[simp] theorem isi_str {z : Str} : isiD "str" (.str z) = some (.bool true) := by rfl
theorem is_between_ok {v lo hi : Int} : F_is_between [.int v, .int lo, .int hi] = .ok (.bool (decide (lo ≤ v) && decide (v ≤ hi))) := by
  unfold F_is_between
  simp only [B_is_between]
  simp
  by_cases h : lo ≤ v <;> simp [h]
theorem eqD_str {a b : Str} {k : Bool} (ha : SeqAt.shaped (.str a) = true) (hb : SeqAt.shaped (.str b) = true) (hk : (a == b) = k) : eqD (.str a) (.str b) = some (.bool k) := by
  unfold eqD; rw [ha, hb, ← hk]; rfl
theorem neD_str {a b : Str} {k : Bool} (ha : SeqAt.shaped (.str a) = true) (hb : SeqAt.shaped (.str b) = true) (hk : (a == b) = k) : neD (.str a) (.str b) = some (.bool (!k)) := by
  unfold neD; rw [ha, hb, ← hk]; rfl
@[simp] theorem eq_fixed : eqD (.str "fixed") (.str "fixed") = some (.bool true) := eqD_str (by decide +kernel) (by decide +kernel) (by decide +kernel)
@[simp] theorem eq_sf : eqD (.str "shares") (.str "fixed") = some (.bool false) := eqD_str (by decide +kernel) (by decide +kernel) (by decide +kernel)
@[simp] theorem eq_fs : eqD (.str "fixed") (.str "shares") = some (.bool false) := eqD_str (by decide +kernel) (by decide +kernel) (by decide +kernel)
@[simp] theorem eq_shares : eqD (.str "shares") (.str "shares") = some (.bool true) := eqD_str (by decide +kernel) (by decide +kernel) (by decide +kernel)
@[simp] theorem ne_shares : neD (.str "shares") (.str "shares") = some (.bool false) := neD_str (k := true) (by decide +kernel) (by decide +kernel) (by decide +kernel)
@[simp] theorem ne_fs : neD (.str "fixed") (.str "shares") = some (.bool true) := neD_str (k := false) (by decide +kernel) (by decide +kernel) (by decide +kernel)
theorem is_endless_ok (r : Rung) : F_is_endless [rd r] = .ok (.bool r.endless) := by
  unfold F_is_endless
  simp only [B_is_endless]
  cases r with
  | fixed s => simp [rd, Rung.endless]
  | shares w c => simp [rd, prs, Rung.endless]
end Sx

namespace Sx
open PySem PySem.Spec PyProof.Rows L2 Mx
theorem fL_ret {α : Type} {g : SG} {body : SS} {W : Tw} (enc : α → Dt) (q : α → Bool) (r : SV) (J : Sl → Prop) : ∀ (xs : List α) (ρ : Sl), J ρ →
    (∀ x ∈ xs, ∀ ρ, J ρ → ∃ ρ1, g (enc x) ρ = some ρ1 ∧ (q x = true → ∃ ρ2, body ρ1 W = .nx ρ2 W ∧ J ρ2) ∧ (q x = false → body ρ1 W = .rt r W)) →
    (xs.all q = true → ∃ ρ', fL g body (xs.map enc) ρ W = .nx ρ' W ∧ J ρ') ∧ (xs.all q = false → fL g body (xs.map enc) ρ W = .rt r W)
  | [], ρ, j, _ => ⟨fun _ => ⟨ρ, rfl, j⟩, fun h => by cases h⟩
  | x :: xs, ρ, j, h => by
    obtain ⟨ρ1, h1, h2, h3⟩ := h x (by simp) ρ j
    rw [List.map_cons, List.all_cons]
    have e : fL g body (enc x :: xs.map enc) ρ W = (match body ρ1 W with | .nx ρ2 W2 => fL g body (xs.map enc) ρ2 W2 | r => r) := by
      show (match g (enc x) ρ with | none => Out.bad | some ρ1 => match body ρ1 W with | .nx ρ2 W2 => fL g body (xs.map enc) ρ2 W2 | r => r) = _
      rw [h1]
    rw [e]
    cases hq : q x with
    | false => rw [h3 hq]; exact ⟨fun z => by simp at z, fun _ => rfl⟩
    | true =>
      obtain ⟨ρ2, h4, h5⟩ := h2 hq
      rw [h4]
      simp only [Bool.true_and]
      exact fL_ret enc q r J xs ρ2 h5 fun y hy => h y (List.mem_cons_of_mem _ hy)
def pairB (n m : Nat) (p : Nat × Nat) : Bool := decide (p.1 < n) && (decide (1 ≤ p.2) && decide (p.2 ≤ m))
def incB (ps : List (Nat × Nat)) : Bool := (List.range (ps.length - 1)).all fun k => decide ((ps.getD k (0, 0)).1 < (ps.getD (k + 1) (0, 0)).1)
theorem incB_iff : ∀ ps : List (Nat × Nat), incB ps = true ↔ ps.Pairwise (fun a b => a.1 < b.1)
  | [] => by simp [incB]
  | [p] => by simp [incB]
  | p :: q :: ps => by
    have ih := incB_iff (q :: ps)
    have e : incB (p :: q :: ps) = (decide (p.1 < q.1) && incB (q :: ps)) := by
      unfold incB
      show (List.range (ps.length + 1)).all _ = _
      rw [List.range_succ_eq_map, List.all_cons, List.all_map]
      rfl
    rw [e, Bool.and_eq_true, decide_eq_true_eq, ih]
    rw [List.pairwise_cons (a := p)]
    constructor
    · rintro ⟨h1, h2⟩
      refine ⟨fun b hb => ?_, h2⟩
      rcases List.mem_cons.mp hb with z | z
      · rw [z]; exact h1
      · exact Nat.lt_trans h1 ((List.pairwise_cons.mp h2).1 b z)
    · rintro ⟨h1, h2⟩
      exact ⟨h1 q (by simp), h2⟩
@[simp] theorem isi_prs {ps} : isiD "tuple" (prs ps) = some (.bool true) := by rfl
@[simp] theorem isi_pr {p} : isiD "tuple" (pr p) = some (.bool true) := by rfl
@[simp] theorem len_prs {ps : List (Nat × Nat)} : lenD [prs ps] = some (.int ps.length) := by
  show some (PyData.int ((ps.map pr).length : Int)) = _
  rw [List.length_map]
@[simp] theorem len_pr {p} : lenD [pr p] = some (.int 2) := by rfl
@[simp] theorem seq_prs {ps : List (Nat × Nat)} : seqOf (prs ps) = some (ps.map pr) := by rfl
@[simp] theorem ix_pr0 {p : Nat × Nat} : ixD (pr p) (.int 0) = some (.int p.1) := by rfl
@[simp] theorem ix_pr1 {p : Nat × Nat} : ixD (pr p) (.int 1) = some (.int p.2) := by rfl
@[simp] theorem gTu_pr {p : Nat × Nat} {gs : SGs} {ρ : Sl} : gTu 2 gs (pr p) ρ = gs [.int p.1, .int p.2] ρ := by rfl
@[simp] theorem list_prs {ps : List (Nat × Nat)} : listL [prs ps] = some (ps.map pr) := by rfl
theorem ix_prs {ps : List (Nat × Nat)} {i : Nat} (h : i < ps.length) : ixD (prs ps) (.int (i : Int)) = some (pr (ps.getD i (0, 0))) := by
  show atI (ps.map pr) (i : Int) = _
  rw [atI_nat (by simp; omega), List.getElem?_map, List.getD_eq_getElem?_getD, List.getElem?_eq_getElem (by omega)]; rfl
theorem rngOf_len {n : Nat} (h : n ≤ 1000) : rngOf [.int ((n : Int) - 1)] = some ((List.range (n - 1)).map fun (i : Nat) => PyData.int (i : Int)) := by
  show (if ((n : Int) - 1) ≤ 100000 ∧ -100000 ≤ ((n : Int) - 1) then some (rngD ((n : Int) - 1)) else none) = _
  rw [if_pos (by omega)]
  unfold rngD
  rw [show ((n : Int) - 1).toNat = n - 1 by omega]
theorem are_pairs_loop {n m : Nat} {x y : Option SV} (ps : List (Nat × Nat)) : (ps.all (pairB n m) = true → ∃ ρ', fL (gN 4) lB_are_pairs_1 (ps.map pr) [some (.d (.int n)), x, some (.d (.int m)), y, none, none] none = .nx ρ' none ∧ ∃ a, ρ' = [some (.d (.int n)), x, some (.d (.int m)), y, a, none]) ∧ (ps.all (pairB n m) = false → fL (gN 4) lB_are_pairs_1 (ps.map pr) [some (.d (.int n)), x, some (.d (.int m)), y, none, none] none = .rt (.d (.bool false)) none) := fL_ret (W := none) (g := gN 4) (body := lB_are_pairs_1) pr (pairB n m) (.d (.bool false))
    (fun ρ => ∃ a, ρ = [some (.d (.int n)), x, some (.d (.int m)), y, a, none]) ps [some (.d (.int n)), x, some (.d (.int m)), y, none, none] ⟨_, rfl⟩ (by
      rintro p hx ρ ⟨a, rfl⟩
      refine ⟨[some (.d (.int n)), x, some (.d (.int m)), y, some (.d (pr p)), none], by simp, fun hq => ⟨[some (.d (.int n)), x, some (.d (.int m)), y, some (.d (pr p)), none], ?_, ⟨_, rfl⟩⟩, fun hq => ?_⟩
      · unfold pairB at hq
        simp only [Bool.and_eq_true, decide_eq_true_eq] at hq
        simp [lB_are_pairs_1, is_between_ok, show (p.1 : Int) ≤ (n : Int) - 1 by omega, show (1 : Int) ≤ (p.2 : Int) by omega, show p.2 ≤ m by omega]
      · unfold pairB at hq
        by_cases h1 : p.1 < n
        · have h2 : ¬ (1 ≤ p.2 ∧ p.2 ≤ m) := fun z => by simp [h1, z.1, z.2] at hq
          simp [lB_are_pairs_1, is_between_ok, show (p.1 : Int) ≤ (n : Int) - 1 by omega]
          by_cases h3 : 1 ≤ p.2
          · simp [show (1 : Int) ≤ (p.2 : Int) by omega, show m < p.2 from Nat.lt_of_not_le fun z => h2 ⟨h3, z⟩]
          · simp [show ¬ (1 : Int) ≤ (p.2 : Int) by omega]
        · simp [lB_are_pairs_1, is_between_ok, show ¬ (p.1 : Int) ≤ (n : Int) - 1 by omega])
theorem are_pairs_comp {a b c d e : Option SV} (ps : List (Nat × Nat)) : cL (gN 5) bYes cE_are_pairs_2 [a, some (.d (prs ps)), b, c, d, none] ((List.range (ps.length - 1)).map fun (i : Nat) => PyData.int (i : Int)) none = .ok ((List.range (ps.length - 1)).map fun k => PyData.bool (decide ((ps.getD k (0, 0)).1 < (ps.getD (k + 1) (0, 0)).1)), none) := by
  refine cL_map (fun (i : Nat) => PyData.int (i : Int)) _ _ fun i hi => ⟨_, by simp; rfl, ?_⟩
  have hi := List.mem_range.mp hi
  have e1 := ix_prs (ps := ps) (i := i) (by omega)
  have e2 := ix_prs (ps := ps) (i := i + 1) (by omega)
  rw [Int.natCast_add] at e2
  simp only [cE_are_pairs_2]
  simp at e2
  simp [e1, e2]
theorem are_pairs_ok {n m k : Nat} (ps : List (Nat × Nat)) (hl : ps.length ≤ 1000) : F_are_pairs [.int n, prs ps, .int m, .int k] = .ok (.bool (!decide (ps.length < k) && (ps.all (pairB n m) && incB ps))) := by
  have hloop := are_pairs_loop (n := n) (m := m) (x := some (.d (prs ps))) (y := some (.d (.int k))) ps
  unfold F_are_pairs
  simp only [B_are_pairs]
  by_cases hk : ps.length < k
  · simp [hk]
  · cases hall : ps.all (pairB n m) with
    | false => simp [hk, hloop.2 hall]
    | true =>
      obtain ⟨ρ', h1, a, rfl⟩ := hloop.1 hall
      have e6 := allD_map (fun k => decide ((ps.getD k (0, 0)).1 < (ps.getD (k + 1) (0, 0)).1)) (List.range (ps.length - 1))
      have hc := are_pairs_comp (a := some (.d (.int n))) (b := some (.d (.int m))) (c := some (.d (.int k))) (d := a) (e := none) ps
      simp [hk, h1, rngOf_len hl, wipeOk, show ps.length - 1 ≤ 100000 by omega, hc, allD_map, incB]

theorem pokB_iff {n m : Nat} {ps : List (Nat × Nat)} : (ps.all (pairB n m) && incB ps) = true ↔ POk n m ps := by
  rw [Bool.and_eq_true, incB_iff, List.all_eq_true]
  constructor
  · rintro ⟨h1, h2⟩
    exact ⟨fun p hp => by have := h1 p hp; unfold pairB at this; simpa using this, h2⟩
  · rintro ⟨h1, h2⟩
    exact ⟨fun p hp => by have := h1 p hp; unfold pairB; simpa using this, h2⟩
/-! a rung -/
def rungB (n : Nat) : Rung → Bool
  | .fixed s => !decide (s.length < 1) && (s.all (pairB n 999) && incB s)
  | .shares w c => (!decide (w.length < 1) && (w.all (pairB n 20) && incB w)) && ((c.all (pairB n 999) && incB c) && c.all fun p => (w.map (·.1)).contains p.1)
theorem rungB_iff {n : Nat} {r : Rung} : rungB n r = true ↔ r.Ok n := by
  cases r with
  | fixed s =>
    unfold rungB Rung.Ok
    rw [Bool.and_eq_true, pokB_iff]
    cases s <;> simp
  | shares w c =>
    show ((!decide (w.length < 1) && (w.all (pairB n 20) && incB w)) && ((c.all (pairB n 999) && incB c) && c.all fun p => (w.map (·.1)).contains p.1)) = true ↔ w ≠ [] ∧ POk n 20 w ∧ POk n 999 c ∧ ∀ p ∈ c, ∃ q ∈ w, q.1 = p.1
    rw [Bool.and_eq_true (!decide (w.length < 1) && (w.all (pairB n 20) && incB w)), Bool.and_eq_true (!decide (w.length < 1)), Bool.and_eq_true (c.all (pairB n 999) && incB c), pokB_iff, pokB_iff]
    have : (c.all fun p => (w.map (·.1)).contains p.1) = true ↔ ∀ p ∈ c, ∃ q ∈ w, q.1 = p.1 := by
      rw [List.all_eq_true]
      constructor
      · intro h p hp
        have := h p hp
        rw [List.contains_iff_mem, List.mem_map] at this
        exact this
      · intro h p hp
        rw [List.contains_iff_mem, List.mem_map]
        exact h p hp
    rw [this]
    cases w <;> simp [and_assoc]
theorem inB_map {k : Nat} : ∀ (ks : List Nat), inB (.int (k : Int)) (ks.map fun (j : Nat) => PyData.int (j : Int)) = ks.contains k
  | [] => rfl
  | j :: ks => by
    rw [List.map_cons]
    unfold inB
    rw [List.any_cons]
    have ih := inB_map (k := k) ks
    unfold inB at ih
    rw [ih, List.contains_cons]
    congr 1
    show (((j : Nat) : Int) == (k : Int)) = (k == j)
    rw [Bool.eq_iff_iff]
    simp
    omega
theorem shaped_ints : ∀ (ks : List Nat), SeqAt.shaped (.list (ks.map fun (j : Nat) => PyData.int (j : Int))) = true := by
  intro ks
  have h1 : ∀ ks : List Nat, PyData.canLayAll0 (ks.map fun (j : Nat) => PyData.int (j : Int)) = true := by
    intro ks
    induction ks with
    | nil => rfl
    | cons k ks ih => rw [List.map_cons]; exact ih
  have h2 : ∀ ks : List Nat, PyData.depthAll (ks.map fun (j : Nat) => PyData.int (j : Int)) = 0 := by
    intro ks
    induction ks with
    | nil => rfl
    | cons k ks ih => rw [List.map_cons]; show max 0 (PyData.depthAll _) = 0; rw [ih]; rfl
  have e : SeqAt.shaped (.list (ks.map fun (j : Nat) => PyData.int (j : Int))) = (PyData.canLayAll0 (ks.map fun (j : Nat) => PyData.int (j : Int)) && decide (PyData.depthAll (ks.map fun (j : Nat) => PyData.int (j : Int)) + 1 ≤ 64)) := rfl
  rw [e, h1, h2]
  rfl
theorem inD_ints {k : Nat} {ks : List Nat} : inD (.int (k : Int)) (.list (ks.map fun (j : Nat) => PyData.int (j : Int))) = some (.bool (ks.contains k)) := by
  show (if SeqAt.shaped (.int (k : Int)) && SeqAt.shaped (.list (ks.map fun (j : Nat) => PyData.int (j : Int))) then some (PyData.bool (inB (.int (k : Int)) (ks.map fun (j : Nat) => PyData.int (j : Int)))) else none) = _
  rw [shaped_ints, inB_map]
  rfl
theorem notInD_ints {k : Nat} {ks : List Nat} : notInD (.int (k : Int)) (.list (ks.map fun (j : Nat) => PyData.int (j : Int))) = some (.bool (!ks.contains k)) := by
  show (if SeqAt.shaped (.int (k : Int)) && SeqAt.shaped (.list (ks.map fun (j : Nat) => PyData.int (j : Int))) then some (PyData.bool (!inB (.int (k : Int)) (ks.map fun (j : Nat) => PyData.int (j : Int)))) else none) = _
  rw [shaped_ints, inB_map]
  rfl
theorem is_rung_ok {n : Nat} {r : Rung} (hl : r.A.length ≤ 1000 ∧ r.C.length ≤ 1000) : F_is_rung [.int n, rd r] = .ok (.bool (rungB n r)) := by
  unfold F_is_rung
  simp only [B_is_rung]
  cases r with
  | fixed s =>
    have h : F_are_pairs [.int n, prs s, .int 999, .int 1] = .ok (.bool (!decide (s.length < 1) && (s.all (pairB n 999) && incB s))) := are_pairs_ok (n := n) (m := 999) (k := 1) s hl.1
    show _ = Res.ok (PyData.bool (!decide (s.length < 1) && (s.all (pairB n 999) && incB s)))
    generalize (!decide (s.length < 1) && (s.all (pairB n 999) && incB s)) = bs at h ⊢
    simp [rd, h]
  | shares w c =>
    have hl1 : w.length ≤ 1000 := hl.1
    have hl2 : c.length ≤ 1000 := hl.2
    have h1 : F_are_pairs [.int n, prs w, .int 20, .int 1] = .ok (.bool (!decide (w.length < 1) && (w.all (pairB n 20) && incB w))) := are_pairs_ok (n := n) (m := 20) (k := 1) w hl.1
    have h2 : F_are_pairs [.int n, prs c, .int 999, .int 0] = .ok (.bool (!decide (c.length < 0) && (c.all (pairB n 999) && incB c))) := are_pairs_ok (n := n) (m := 999) (k := 0) c hl.2
    rw [show (!decide (c.length < 0)) = true by simp, Bool.true_and] at h2
    have hr : rungB n (.shares w c) = ((!decide (w.length < 1) && (w.all (pairB n 20) && incB w)) && ((c.all (pairB n 999) && incB c) && c.all fun p => (w.map (·.1)).contains p.1)) := rfl
    rw [hr]
    generalize (!decide (w.length < 1) && (w.all (pairB n 20) && incB w)) = bw at h1 ⊢
    generalize (c.all (pairB n 999) && incB c) = bc at h2 ⊢
    have hc1 : cL (gTu 2 (gsCons (gN 3) (gsCons (gN 4) gsNil))) bYes cE_is_rung_1 [some (.d (.int n)), some (.d (rd (.shares w c))), none, none, none, none] (w.map pr) none = .ok (w.map (fun p => PyData.int (p.1 : Int)), none) := by
      refine cL_map pr _ _ fun p hp => ⟨_, by simp; rfl, ?_⟩
      simp [cE_is_rung_1]
    have hc2 : cL (gTu 2 (gsCons (gN 3) (gsCons (gN 5) gsNil))) bYes cE_is_rung_2 [some (.d (.int n)), some (.d (rd (.shares w c))), some (.d (.list (w.map (fun p => PyData.int (p.1 : Int))))), none, none, none] (c.map pr) none = .ok (c.map (fun p => PyData.bool ((w.map (·.1)).contains p.1)), none) := by
      refine cL_map pr _ _ fun p hp => ⟨_, by simp; rfl, ?_⟩
      have := inD_ints (k := p.1) (ks := w.map (·.1))
      rw [List.map_map] at this
      simp only [cE_is_rung_2]
      simp only [eBin_s, eVar_s]
      have this : inD (.int (p.1 : Int)) (.list (w.map (fun p => PyData.int (p.1 : Int)))) = some (.bool ((w.map (·.1)).contains p.1)) := this
      simp [this]
    simp only [rd] at hc1 hc2 ⊢
    cases bw with
    | false => simp [h1]
    | true =>
      cases bc with
      | false => simp [h1, h2]
      | true => simp [h1, h2, wipeOk, hc1, hc2, allD_map, show w.length ≤ 100000 by omega, show c.length ≤ 100000 by omega]
end Sx

namespace Sx
open PySem PySem.Spec PyProof.Rows L2 Mx
@[simp] theorem ix_ld0 {l : Lad} : ixD (ld l) (.int 0) = some (.int l.n) := by rfl
@[simp] theorem ix_ld1 {l : Lad} : ixD (ld l) (.int 1) = some (.tuple (l.rs.map rd)) := by rfl
@[simp] theorem isi_ld {l : Lad} : isiD "tuple" (ld l) = some (.bool true) := by rfl
@[simp] theorem len_ld {l : Lad} : lenD [ld l] = some (.int 2) := by rfl
@[simp] theorem gTu_ld {l : Lad} {gs : SGs} {ρ : Sl} : gTu 2 gs (ld l) ρ = gs [.int l.n, .tuple (l.rs.map rd)] ρ := by rfl
theorem is_ladder_ok {n : Nat} {rs : List Rung} {r : Rung} (h1 : 1 ≤ n) (h5 : n ≤ 5) (hr : rs.length ≤ 3) (hl : ∀ q ∈ rs ++ [r], q.A.length ≤ 1000 ∧ q.C.length ≤ 1000) :
    F_is_ladder [ld ⟨n, rs ++ [r]⟩] = .ok (.bool ((rs ++ [r]).all (rungB n) && r.endless)) := by
  have hc : cL (gN 3) bYes cE_is_ladder_1 [some (.d (ld ⟨n, rs ++ [r]⟩)), some (.d (.int n)), some (.d (.tuple ((rs ++ [r]).map rd))), none] ((rs ++ [r]).map rd) none = .ok ((rs ++ [r]).map (fun q => PyData.bool (rungB n q)), none) := by
    refine cL_map rd _ _ fun q hq => ⟨_, by simp; rfl, ?_⟩
    simp [cE_is_ladder_1, is_rung_ok (n := n) (hl q hq)]
  have hat : atI ((rs ++ [r]).map rd) (-1) = some (rd r) := by rw [List.map_append]; exact atI_last
  unfold F_is_ladder
  simp only [B_is_ladder]
  generalize hL : rs ++ [r] = L at *
  have hlen : L.length = rs.length + 1 := by rw [← hL]; simp
  have ha : allD [.list (L.map fun q => PyData.bool (rungB n q))] = some (.bool (L.all (rungB n))) := allD_map _ _
  generalize L.all (rungB n) = b at ha ⊢
  cases b <;> simp [is_between_ok, show (1 : Int) ≤ (n : Int) by omega, show (n : Int) ≤ 5 by omega, hlen, show (1 : Int) ≤ (rs.length : Int) + 1 by omega, show (rs.length : Int) + 1 ≤ 4 by omega, wipeOk, show rs.length + 1 ≤ 100000 by omega, hc, ha, hat, is_endless_ok]
theorem ladB_iff {n : Nat} {rs : List Rung} {r : Rung} (h1 : 1 ≤ n) (h5 : n ≤ 5) (hr : rs.length ≤ 3) : ((rs ++ [r]).all (rungB n) && r.endless) = true ↔ Lad.Ok ⟨n, rs ++ [r]⟩ := by
  rw [Bool.and_eq_true, List.all_eq_true]
  constructor
  · rintro ⟨a, b⟩
    exact ⟨h1, h5, by simp, by simp; omega, fun q hq => rungB_iff.mp (a q hq), r, by simp, b⟩
  · intro k
    obtain ⟨r', e1, e2⟩ := k.en
    simp at e1
    subst e1
    exact ⟨fun q hq => rungB_iff.mpr (k.ok q hq), e2⟩
theorem Ok_len {n : Nat} {r : Rung} (h : r.Ok n) (h5 : n ≤ 5) : r.A.length ≤ 1000 ∧ r.C.length ≤ 1000 := by
  cases r with
  | fixed s => have := pok_len h.2; exact ⟨by show s.length ≤ _; omega, by show s.length ≤ _; omega⟩
  | shares w c => have := pok_len h.2.1; have := pok_len h.2.2.1; exact ⟨by show w.length ≤ _; omega, by show c.length ≤ _; omega⟩
theorem is_ladder_true {l : Lad} (k : l.Ok) : F_is_ladder [ld l] = .ok (.bool true) := by
  obtain ⟨n, rs⟩ := l
  obtain ⟨r, e1, e2⟩ := k.en
  obtain ⟨qs, e3⟩ : ∃ qs, rs = qs ++ [r] := by
    have := List.getLast?_eq_some_iff.mp e1
    exact this
  subst e3
  have h4 := k.r4
  simp at h4
  rw [is_ladder_ok k.n1 k.n5 (by omega) fun q hq => Ok_len (k.ok q hq) k.n5, (ladB_iff k.n1 k.n5 (by omega)).mpr k]
theorem check_ladder_ok {l : Lad} (k : l.Ok) : F_check_ladder [ld l] = .ok .none := by
  unfold F_check_ladder
  simp only [B_check_ladder]
  simp [is_ladder_true k]
/-! amounts -/
structure Amt (q : Rat) : Prop where
  nn : 0 ≤ q
  le : q ≤ 1000000
  dn : q.den ≤ 1000
@[simp] theorem isi_fr {q} : isiD "tuple" (fr q) = some (.bool true) := by rfl
@[simp] theorem len_fr {q} : lenD [fr q] = some (.int 2) := by rfl
@[simp] theorem ix_fr0 {q : Rat} : ixD (fr q) (.int 0) = some (.int q.num) := by rfl
@[simp] theorem ix_fr1 {q : Rat} : ixD (fr q) (.int 1) = some (.int q.den) := by rfl
theorem is_amount_ok {q : Rat} (h : Amt q) : F_is_amount [fr q] = .ok (.bool true) := by
  have h0 : 0 ≤ q.num := Rat.num_nonneg.mpr h.nn
  have h1 : q.num ≤ 1000000 * (q.den : Int) := by
    have := (Rat.le_iff q 1000000).mp h.le
    simpa using this
  have hd : 0 < q.den := Nat.pos_of_ne_zero q.den_nz
  have hdd := h.dn
  have hg := divisor_ok q.num q.den
  rw [q.reduced] at hg
  have hm : mulOk 1000000 (q.den : Int) = true := mulOk_of (j := 20) (k := 10) (by decide) (by rw [Int.natAbs_natCast]; exact Nat.lt_of_le_of_lt hdd (by decide)) (by decide)
  unfold F_is_amount
  simp only [B_is_amount]
  simp [is_between_ok, show (1 : Int) ≤ (q.den : Int) by omega, show (q.den : Int) ≤ 1000 by omega, hm, h0, h1, hg]
theorem check_amount_ok {q : Rat} (h : Amt q) : F_check_amount [fr q] = .ok .none := by
  unfold F_check_amount
  simp only [B_check_amount]
  simp [is_amount_ok h]
theorem Amt.bd {q : Rat} (h : Amt q) : Bd 30 q := by
  have h0 : 0 ≤ q.num := Rat.num_nonneg.mpr h.nn
  have h1 : q.num ≤ 1000000 * (q.den : Int) := by
    have := (Rat.le_iff q 1000000).mp h.le
    simpa using this
  have := h.dn
  refine ⟨?_, Nat.lt_of_le_of_lt this (by decide)⟩
  have : q.num.natAbs ≤ 1000000000 := by omega
  exact Nat.lt_of_le_of_lt this (by decide)
end Sx

namespace Sx
open PySem PySem.Spec PyProof.Rows L2 Mx
theorem fL_pre' {α : Type} {g : SG} {body : SS} {W : Tw} (enc : α → Dt) (I : List α → Sl → Prop) (ys : List α)
    (h : ∀ pre x post ρ, ys = pre ++ x :: post → I pre ρ → ∃ ρ1 ρ2, g (enc x) ρ = some ρ1 ∧ body ρ1 W = .nx ρ2 W ∧ I (pre ++ [x]) ρ2) : ∀ (xs pre : List α) (ρ : Sl), ys = pre ++ xs → I pre ρ → ∃ ρ', fL g body (xs.map enc) ρ W = .nx ρ' W ∧ I ys ρ'
  | [], pre, ρ, e, i => ⟨ρ, rfl, by rw [e, List.append_nil]; exact i⟩
  | x :: xs, pre, ρ, e, i => by
    obtain ⟨ρ1, ρ2, h1, h2, h3⟩ := h pre x xs ρ e i
    obtain ⟨ρ', h4, h5⟩ := fL_pre' enc I ys h xs (pre ++ [x]) ρ2 (by rw [e]; simp) h3
    refine ⟨ρ', ?_, h5⟩
    rw [List.map_cons]
    show (match g (enc x) ρ with | none => Out.bad | some ρ1 => match body ρ1 W with | .nx ρ2 W2 => fL g body (xs.map enc) ρ2 W2 | r => r) = _
    rw [h1]
    simp only [h2, h4]
theorem fL_pre {α : Type} {g : SG} {body : SS} {W : Tw} (enc : α → Dt) (I : List α → Sl → Prop) (xs : List α) (ρ : Sl) (i : I [] ρ)
    (h : ∀ pre x post ρ, xs = pre ++ x :: post → I pre ρ → ∃ ρ1 ρ2, g (enc x) ρ = some ρ1 ∧ body ρ1 W = .nx ρ2 W ∧ I (pre ++ [x]) ρ2) : ∃ ρ', fL g body (xs.map enc) ρ W = .nx ρ' W ∧ I xs ρ' :=
  fL_pre' enc I xs h xs [] ρ rfl i
/-! ### rates -/
def rtL (n : Nat) (r : Nat → Rat) : List Dt := (List.range n).map fun h => fr (r h)
def lnD : Option Rat → Dt
  | none => .none
  | some l => fr l
def pcD (n : Nat) (pc : Pc) : Dt := .tuple [lnD pc.1, .tuple (rtL n pc.2)]
theorem rtL_len {n r} : (rtL n r).length = n := by simp [rtL]
theorem ixN_nat {n h : Nat} (hh : h < n) : ixN n (h : Int) = some h := by
  unfold ixN
  rw [if_pos (by omega), if_pos (by omega)]; rfl
theorem set_rtL {n h : Nat} {r : Nat → Rat} {v : Rat} (hh : h < n) : setD (rtL n r) (.int (h : Int)) (fr v) = some (rtL n fun j => if j = h then v else r j) := by
  show (ixN (rtL n r).length (h : Int)).map _ = _
  rw [rtL_len, ixN_nat hh]
  show some ((rtL n r).set h (fr v)) = _
  congr 1
  refine List.ext_getElem? fun j => ?_
  unfold rtL
  by_cases hj : h = j
  · subst hj
    rw [List.getElem?_set_self (by simpa using hh), List.getElem?_map, List.getElem?_range hh]
    simp
  · rw [List.getElem?_set_ne hj, List.getElem?_map, List.getElem?_map]
    by_cases hjn : j < n
    · rw [List.getElem?_range hjn]
      simp [Ne.symm hj]
    · rw [List.getElem?_eq_none (by simpa using hjn)]; rfl
theorem ix_rtL {n h : Nat} {r : Nat → Rat} (hh : h < n) : atI (rtL n r) (h : Int) = some (fr (r h)) := by
  rw [atI_nat (by rw [rtL_len]; exact hh)]
  unfold rtL
  rw [List.getElem?_map, List.getElem?_range hh]; rfl
theorem mulL_zero {n : Nat} (h : n ≤ 5) : mulL (.list [.tuple [.int 0, .int 1]]) (.int (n : Int)) = some (rtL n fun _ => 0) := by
  show (if (n : Int) ≤ 1000 ∧ -1000 ≤ (n : Int) ∧ 1 ≤ 1000 then some (List.replicate (n : Int).toNat [PyData.tuple [.int 0, .int 1]]).flatten else none) = _
  rw [if_pos (by omega)]
  congr 1
  have e : ∀ k : Nat, (List.replicate k [PyData.tuple [.int 0, .int 1]]).flatten = rtL k fun _ => 0 := by
    intro k
    induction k with
    | zero => rfl
    | succ k ih =>
      rw [List.replicate_succ', List.flatten_append, ih]
      unfold rtL
      rw [List.range_succ, List.map_append]
      rfl
  exact e _
theorem rt_app {pre : List (Nat × Nat)} {h w : Nat} {W : Rat} (hn : lk pre h = none) : rt (pre ++ [(h, w)]) W = fun j => if j = h then (w : Rat) / W else rt pre W j := by
  have e : ∀ (pre : List (Nat × Nat)) (j : Nat), lk (pre ++ [(h, w)]) j = match lk pre j with | some v => some v | none => if h = j then some w else none := by
    intro pre j
    induction pre with
    | nil => rfl
    | cons p pre ih =>
      rw [List.cons_append]
      unfold lk
      by_cases hp : p.1 = j
      · simp [hp]
      · simp only [hp, if_false]; exact ih
  funext j
  unfold rt
  rw [e]
  by_cases hj : j = h
  · subst hj; rw [hn]; simp
  · rw [if_neg hj]
    cases lk pre j with
    | none => simp only; rw [if_neg (Ne.symm hj)]
    | some v => rfl
theorem dis_pre {β : Type} {pre post : List (Nat × β)} {x : Nat × β} {xs : List (Nat × β)} (d : Dis xs) (e : xs = pre ++ x :: post) : lk pre x.1 = none := by
  rw [lk_none]
  intro p hp
  subst e
  exact (List.pairwise_append.mp d).2.2 p hp x (by simp)
theorem frac_nat {w W : Nat} (hW : 0 < W) (hb : W < 2 ^ 24) : F_fraction [.int w, .int W] = .ok (fr ((w : Rat) / (W : Rat))) := by
  have h := fraction_ok (a := (w : Int)) hW (Nat.lt_of_lt_of_le hb (Nat.pow_le_pow_right (by decide) (by decide)))
  rw [Rat.mkRat_eq_div, Rat.intCast_natCast] at h
  exact h
theorem sum_int : ∀ ps : List (Nat × Nat), (ps.map fun p => (p.2 : Int)).sum = (wsum ps : Int)
  | [] => rfl
  | p :: ps => by rw [List.map_cons, List.sum_cons, sum_int ps, wsum_cons, Int.natCast_add]
theorem sumD_pairs (ps : List (Nat × Nat)) : sumD [.list (ps.map fun p => PyData.int (p.2 : Int))] = some (.int (wsum ps)) := by
  rw [sumD_map (fun p : Nat × Nat => (p.2 : Int)) ps, sum_int]
theorem fixed_pieces_ok {n : Nat} {s : List (Nat × Nat)} (hn : n ≤ 5) (h0 : s ≠ []) (k : POk n 999 s) : F_fixed_pieces [.int n, prs s] = .ok (.list [pcD n (some (wsum s : Rat), rt s (wsum s : Rat))]) := by
  have hw : ∀ p ∈ s, 0 < p.2 := fun p hp => (k.el p hp).2.1
  have hWn := wsum_pos hw h0
  have hlen := pok_len k
  have hWle : wsum s ≤ 4995 := by
    have a := wsum_le fun p hp => (k.el p hp).2.2
    have : 999 * s.length ≤ 999 * 5 := Nat.mul_le_mul_left _ (by omega)
    omega
  have hc : cL (gTu 2 (gsCons (gN 4) (gsCons (gN 5) gsNil))) bYes cE_fixed_pieces_1 [some (.d (.int n)), some (.d (prs s)), none, none, none, none] (s.map pr) none = .ok (s.map (fun p => PyData.int (p.2 : Int)), none) := by
    refine cL_map pr _ _ fun p hp => ⟨_, by simp; rfl, ?_⟩
    simp [cE_fixed_pieces_1]
  obtain ⟨ρ', h1, a, b, rfl⟩ := fL_pre (W := none) (g := gTu 2 (gsCons (gN 4) (gsCons (gN 5) gsNil))) (body := lB_fixed_pieces_2) pr
    (fun pre ρ => ∃ a b, ρ = [some (.d (.int n)), some (.d (prs s)), some (.d (.int (wsum s))), some (.own (rtL n (rt pre (wsum s : Rat)))), a, b]) s [some (.d (.int n)), some (.d (prs s)), some (.d (.int (wsum s))), some (.own (rtL n fun _ => 0)), none, none] ⟨none, none, rfl⟩ (by
      rintro pre x post ρ e ⟨a, b, rfl⟩
      have hx : x ∈ s := by rw [e]; simp
      have hxn := (k.el x hx).1
      refine ⟨_, [some (.d (.int n)), some (.d (prs s)), some (.d (.int (wsum s))), some (.own (rtL n (rt (pre ++ [x]) (wsum s : Rat)))), some (.d (.int x.1)), some (.d (.int x.2))], by simp; rfl, ?_, _, _, rfl⟩
      have hf := frac_nat (w := x.2) hWn (Nat.lt_of_le_of_lt hWle (by decide))
      have hs := set_rtL (n := n) (r := rt pre (wsum s : Rat)) (v := (x.2 : Rat) / (wsum s : Rat)) hxn
      rw [← rt_app (dis_pre k.dis e)] at hs
      simp only [lB_fixed_pieces_2]
      simp [hf, hs])
  unfold F_fixed_pieces
  simp only [B_fixed_pieces]
  simp [wipeOk, show s.length ≤ 100000 by omega, hc, sumD_pairs, mulL_zero hn, h1, pcD, lnD]
  rfl
end Sx

namespace Sx
open PySem PySem.Spec PyProof.Rows L2 Mx
/-! ### dicts as typed lists -/
def kvL (L : List (Nat × Rat)) : List (Int × Dt) := L.map fun p => ((p.1 : Int), fr p.2)
theorem valD_kvL (h : Nat) : ∀ L : List (Nat × Rat), valD (kvL L) (h : Int) = (lk L h).map fr
  | [] => rfl
  | (k, v) :: L => by
    have ih := valD_kvL h L
    unfold kvL valD at ih ⊢
    rw [List.map_cons]
    unfold lk
    by_cases hk : k = h
    · subst hk; simp
    · rw [if_neg hk, ← ih, List.find?_cons_of_neg (by simp; omega)]
theorem putD_new {acc : List (Int × Dt)} {k : Int} {d : Dt} (h : ∀ p ∈ acc, p.1 ≠ k) : putD acc k d = acc ++ [(k, d)] := by
  unfold putD
  rw [if_neg]
  intro z
  obtain ⟨p, hp, e⟩ := List.any_eq_true.mp z
  exact h p hp (of_decide_eq_true e)
theorem mergeD_dis : ∀ (L : List (Nat × Rat)) (acc : List (Nat × Rat)), Dis (acc ++ L) → mergeD (kvL acc) (kvL L) = kvL (acc ++ L)
  | [], acc, _ => by rw [List.append_nil]; rfl
  | p :: L, acc, d => by
    have e : mergeD (kvL acc) (kvL (p :: L)) = mergeD (putD (kvL acc) (p.1 : Int) (fr p.2)) (kvL L) := rfl
    rw [e, putD_new]
    · have : kvL acc ++ [((p.1 : Int), fr p.2)] = kvL (acc ++ [p]) := by unfold kvL; rw [List.map_append]; rfl
      rw [this, mergeD_dis L (acc ++ [p]) (by rw [List.append_assoc]; exact d), List.append_assoc]
      rfl
    · intro q hq
      obtain ⟨r, hr, rfl⟩ := List.mem_map.mp hq
      have := (List.pairwise_append.mp d).2.2 r hr p (by simp)
      simp only
      omega
theorem pairsD_map {α : Type} (f : α → Nat) (g : α → Rat) : ∀ xs : List α, pairsD (xs.map fun x => .tuple [.int (f x : Int), fr (g x)]) = some (xs.map fun x => ((f x : Int), fr (g x)))
  | [] => rfl
  | x :: xs => by
    rw [List.map_cons]
    show (pairsD (xs.map _)).map _ = _
    rw [pairsD_map f g xs]
    rfl
theorem dictOf_map {α : Type} {f : α → Nat} {g : α → Rat} {xs : List α} (d : Dis (xs.map fun x => (f x, g x))) : dictOf (.list (xs.map fun x => .tuple [.int (f x : Int), fr (g x)])) = some (kvL (xs.map fun x => (f x, g x))) := by
  show (pairsD _).map (mergeD []) = _
  rw [pairsD_map f g xs]
  show some (mergeD [] _) = _
  have e : (xs.map fun x => ((f x : Int), fr (g x))) = kvL (xs.map fun x => (f x, g x)) := by unfold kvL; rw [List.map_map]; rfl
  rw [e]
  have := mergeD_dis (xs.map fun x => (f x, g x)) [] d
  rw [List.nil_append] at this
  exact congrArg some this
@[simp] theorem shaped_fr {q : Rat} : SeqAt.shaped (fr q) = true := by rfl
theorem eqv_fr {a b : Rat} : PyData.eqv (fr a) (fr b) = decide (a = b) := by
  show ((a.num == b.num) && (((a.den : Int) == (b.den : Int)) && true)) = _
  rw [Bool.eq_iff_iff]
  simp only [Bool.and_true, Bool.and_eq_true, beq_iff_eq, decide_eq_true_eq]
  constructor
  · rintro ⟨h1, h2⟩; exact Rat.ext h1 (by omega)
  · intro h; subst h; exact ⟨rfl, rfl⟩
theorem neD_fr {a b : Rat} : neD (fr a) (fr b) = some (.bool (!decide (a = b))) := by
  unfold neD; rw [shaped_fr, shaped_fr, eqv_fr]; rfl
theorem eqD_fr {a b : Rat} : eqD (fr a) (fr b) = some (.bool (decide (a = b))) := by
  unfold eqD; rw [shaped_fr, shaped_fr, eqv_fr]; rfl
theorem fr0 : (PyData.tuple [.int 0, .int 1] : Dt) = fr 0 := rfl
theorem neD_fr0 {a : Rat} : neD (fr a) (.tuple [.int 0, .int 1]) = some (.bool (!decide (a = 0))) := by rw [fr0]; exact neD_fr
@[simp] theorem isD_none : isD .none .none = some (.bool true) := by rfl
@[simp] theorem isD_fr {q : Rat} : isD (fr q) .none = some (.bool false) := by rfl
@[simp] theorem isNotD_none : isNotD .none .none = some (.bool false) := by rfl
@[simp] theorem isNotD_fr {q : Rat} : isNotD (fr q) .none = some (.bool true) := by rfl
theorem isD_ln {o : Option Rat} : isD (lnD o) .none = some (.bool o.isNone) := by cases o <;> rfl
/-! ### the numbers -/
theorem Lev.bdL {n : Nat} {w c A : List (Nat × Nat)} {L : List (Nat × Rat)} {t : Rat} (k : (Rung.shares w c).Ok n) (v : Lev w c t A L) (hv : Lvl w c t) {h : Nat} {x : Rat} (e : lk L h = some x) : Bd 24 x := by
  obtain ⟨a, b, hb0, hb20, ha, ht⟩ := hv.ab k
  cases hw : lk w h with
  | none => rw [v.oL h hw] at e; cases e
  | some y =>
    have e1 := v.lL h y hw
    rw [e] at e1
    cases hc : lk c h with
    | none => rw [hc] at e1; cases e1
    | some z =>
      rw [hc] at e1
      simp only at e1
      have k1 := (k.2.1.el _ (lk_mem hw)).2.2
      have k2 := (k.2.2.1.el _ (lk_mem hc)).2.2
      simp only at k1 k2
      split at e1
      · cases e1
        have hbp : (0 : Rat) < (b : Rat) := Rat.natCast_pos.mpr hb0
        have e2 : (z : Rat) - (y : Rat) * t = (((z : Int) * b - (y : Int) * a : Int) : Rat) / (b : Rat) := by
          have : ((z : Rat) - (y : Rat) * t) * (b : Rat) = (((z : Int) * b - (y : Int) * a : Int) : Rat) := by
            rw [Rat.intCast_sub, Rat.intCast_mul, Rat.intCast_mul, Rat.intCast_natCast, Rat.intCast_natCast, Rat.intCast_natCast, Rat.intCast_natCast, ← ht]
            try grind
          rw [← this]
          exact (Rat.mul_div_cancel (by grind)).symm
        rw [e2]
        have h1 : z * b ≤ 999 * 20 := Nat.mul_le_mul k2 hb20
        have h2 : y * a ≤ 20 * 999 := Nat.mul_le_mul k1 ha
        refine bd_fracI hb0 ?_ (by omega)
        have i1 : (z : Int) * b = ((z * b : Nat) : Int) := by simp
        have i2 : (y : Int) * a = ((y * a : Nat) : Int) := by simp
        rw [i1, i2]
        omega
      · cases e1
theorem lenOf_app {L : List (Nat × Rat)} {W : Rat} {x : Nat × Nat} : ∀ (pre : List (Nat × Nat)) (o : Option Rat), lenOf L W (pre ++ [x]) o = lenOf L W [x] (lenOf L W pre o)
  | [], o => rfl
  | (h, w) :: pre, o => by
    rw [List.cons_append]
    exact lenOf_app pre _
def lenS (L : List (Nat × Rat)) (W : Rat) (x : Nat × Nat) (o : Option Rat) : Option Rat := match lk L x.1 with
  | none => o
  | some c => some (match o with
    | none => c / ((x.2 : Rat) / W)
    | some l => if c / ((x.2 : Rat) / W) < l then c / ((x.2 : Rat) / W) else l)
theorem lenOf_snoc {L : List (Nat × Rat)} {W : Rat} {x : Nat × Nat} (pre : List (Nat × Nat)) (o : Option Rat) : lenOf L W (pre ++ [x]) o = lenS L W x (lenOf L W pre o) := by
  rw [lenOf_app]
  cases x
  rfl
/-- the first part of a turn: rates and length -/
theorem share_loop {n : Nat} {A : List (Nat × Nat)} {L : List (Nat × Rat)} {x1 x2 x5 x12 x13 j9 j10 j11 : Option SV} (s : St A L) (hA : ∀ p ∈ A, p.1 < n ∧ p.2 ≤ 20) (h0 : A ≠ []) (hW : wsum A ≤ 100) (hb : ∀ h c, lk L h = some c → Bd 24 c) :
    ∃ a9 a10 a11, (∃ d9 d10, a9 = some (.d d9) ∧ a10 = some (.d d10)) ∧ fL (gTu 2 (gsCons (gN 9) (gsCons (gN 10) gsNil))) lB_share_pieces_4 (A.map pr) [some (.d (.int n)), x1, x2, some (.dk (kvL L)), some (.d (.list (A.map pr))), x5, some (.d (.int (wsum A))), some (.own (rtL n fun _ => 0)), some (.d .none), j9, j10, j11, x12, x13] none =
      .nx [some (.d (.int n)), x1, x2, some (.dk (kvL L)), some (.d (.list (A.map pr))), x5, some (.d (.int (wsum A))), some (.own (rtL n (rt A (wsum A : Rat)))), some (.d (lnD (lenOf L (wsum A : Rat) A none))), a9, a10, a11, x12, x13] none := by
  have hWn := wsum_pos s.wp h0
  have hWr := s.W h0
  have key := fL_pre (W := none) (g := gTu 2 (gsCons (gN 9) (gsCons (gN 10) gsNil))) (body := lB_share_pieces_4) pr
    (fun pre ρ => ∃ a9 a10 a11, (pre ≠ [] → ∃ d9 d10, a9 = some (.d d9) ∧ a10 = some (.d d10)) ∧ (∀ l, lenOf L (wsum A : Rat) pre none = some l → Bd 40 l) ∧ ρ = [some (.d (.int n)), x1, x2, some (.dk (kvL L)), some (.d (.list (A.map pr))), x5, some (.d (.int (wsum A))), some (.own (rtL n (rt pre (wsum A : Rat)))), some (.d (lnD (lenOf L (wsum A : Rat) pre none))), a9, a10, a11, x12, x13]) A
    [some (.d (.int n)), x1, x2, some (.dk (kvL L)), some (.d (.list (A.map pr))), x5, some (.d (.int (wsum A))), some (.own (rtL n fun _ => 0)), some (.d .none), j9, j10, j11, x12, x13] ⟨j9, j10, j11, fun z => absurd rfl z, fun l z => (by cases z), rfl⟩ (by
      rintro pre x post ρ e ⟨a9, a10, a11, hd, hbl, rfl⟩
      have hx : x ∈ A := by rw [e]; simp
      obtain ⟨hxn, hx20⟩ := hA x hx
      have hf := frac_nat (w := x.2) hWn (Nat.lt_of_le_of_lt hW (by decide))
      have hs := set_rtL (n := n) (r := rt pre (wsum A : Rat)) (v := (x.2 : Rat) / (wsum A : Rat)) hxn
      rw [← rt_app (dis_pre s.dA e)] at hs
      have hix := ix_rtL (n := n) (h := x.1) (r := rt (pre ++ [x]) (wsum A : Rat)) hxn
      have hrx : rt (pre ++ [x]) (wsum A : Rat) x.1 = (x.2 : Rat) / (wsum A : Rat) := by rw [rt_app (dis_pre s.dA e)]; simp
      have hrp := s.rp h0 hx
      have hrb : Bd 13 ((x.2 : Rat) / (wsum A : Rat)) := bd_frac hWn (by omega) (by omega)
      have hv := valD_kvL x.1 L
      rw [hrx] at hix
      refine ⟨_, [some (.d (.int n)), x1, x2, some (.dk (kvL L)), some (.d (.list (A.map pr))), x5, some (.d (.int (wsum A))), some (.own (rtL n (rt (pre ++ [x]) (wsum A : Rat)))), some (.d (lnD (lenOf L (wsum A : Rat) (pre ++ [x]) none))), some (.d (.int x.1)), some (.d (.int x.2)), match lk L x.1 with | none => a11 | some c => some (.d (fr (c / ((x.2 : Rat) / (wsum A : Rat))))), x12, x13], by simp; rfl, ?_, _, _, _, fun _ => ⟨_, _, rfl, rfl⟩, fun l hl => ?_, rfl⟩
      · rw [lenOf_snoc]
        unfold lenS
        cases hc : lk L x.1 with
        | none =>
          rw [hc] at hv
          simp only [lB_share_pieces_4]
          simp [hf, hs, hv]
        | some c =>
          rw [hc] at hv
          have hbc := hb _ _ hc
          have hq := quotient_ok (hbc.mono (by decide)) (hrb.mono (by decide)) hrp
          simp only [lB_share_pieces_4]
          cases ho : lenOf L (wsum A : Rat) pre none with
          | none =>
            simp [hf, hs, hv, hix, hq, lnD]
          | some l =>
            have hls := lesser_ok (a := l) (b := c / ((x.2 : Rat) / (wsum A : Rat))) ((hbl l ho).mono (by decide)) ((hbc.div hrb (by decide)).mono (by decide))
            simp [hf, hs, hv, hix, hq, lnD, hls]
      · rw [lenOf_snoc] at hl
        unfold lenS at hl
        cases hc : lk L x.1 with
        | none => simp only [hc] at hl; exact hbl l hl
        | some c =>
          have hbc := hb _ _ hc
          have hbd := (hbc.div hrb (by decide)).mono (show 24 + 13 ≤ 40 by decide)
          simp only [hc] at hl
          have hl : (some (match lenOf L (wsum A : Rat) pre none with | none => c / ((x.2 : Rat) / (wsum A : Rat)) | some l => if c / ((x.2 : Rat) / (wsum A : Rat)) < l then c / ((x.2 : Rat) / (wsum A : Rat)) else l)) = some l := hl
          cases ho : lenOf L (wsum A : Rat) pre none with
          | none => rw [ho] at hl; cases hl; exact hbd
          | some l' =>
            rw [ho] at hl
            simp only at hl
            split at hl <;> (cases hl)
            · exact hbd
            · exact hbl _ ho)
  obtain ⟨ρ', h1, a9, a10, a11, h2, _, rfl⟩ := key
  exact ⟨a9, a10, a11, h2 h0, h1⟩
end Sx

namespace Sx
open PySem PySem.Spec PyProof.Rows L2 Mx
def keyB (j : Option SV) : Prop := j = none ∨ ∃ d, j = some (.d d)
theorem wipe1 {ρ : Sl} {i : Nat} {j : Option SV} (h : ρ[i]? = some j) (k : keyB j) : wipeOk ρ [i] = true := by
  unfold wipeOk
  rw [List.all_cons, h]
  rcases k with rfl | ⟨d, rfl⟩ <;> rfl
theorem wipe2 {ρ : Sl} {i i' : Nat} {j j' : Option SV} (h : ρ[i]? = some j) (h' : ρ[i']? = some j') (k : keyB j) (k' : keyB j') : wipeOk ρ [i, i'] = true := by
  unfold wipeOk
  rw [List.all_cons, List.all_cons, h, h']
  rcases k with rfl | ⟨d, rfl⟩ <;> rcases k' with rfl | ⟨d', rfl⟩ <;> rfl
theorem keepA_map (L : List (Nat × Rat)) (A : List (Nat × Nat)) : keepA L A = A.filter fun p => (!(lk L p.1).isSome || (match (lk L p.1) with | none => false | some c => !decide (c = 0))) := by
  unfold keepA
  refine List.filter_congr fun p _ => ?_
  cases lk L p.1 with
  | none => rfl
  | some c => simp
theorem share_c3 {A : List (Nat × Nat)} {x0 x1 x2 x3 x4 x5 x6 x7 x8 x11 x12 x13 : Option SV} : cL (gTu 2 (gsCons (gN 9) (gsCons (gN 10) gsNil))) bYes cE_share_pieces_3 [x0, x1, x2, x3, x4, x5, x6, x7, x8, none, none, x11, x12, x13] (A.map pr) none = .ok (A.map (fun p => PyData.int (p.2 : Int)), none) := by
  refine cL_map pr _ _ fun p hp => ⟨_, by simp; rfl, ?_⟩
  simp [cE_share_pieces_3]
theorem share_c5 {n : Nat} {L : List (Nat × Rat)} {l : Rat} {r : Nat → Rat} {x1 x2 x4 x5 x6 x10 x11 x12 x13 : Option SV} (d : Dis L) (hk : ∀ p ∈ L, p.1 < n ∧ Bd 24 p.2 ∧ Bd 13 (r p.1)) (hl : Bd 24 l) :
    cL (gN 9) bYes cE_share_pieces_5 [some (.d (.int n)), x1, x2, some (.fd (kvL L)), x4, x5, x6, some (.own (rtL n r)), some (.d (fr l)), none, x10, x11, x12, x13] (L.map fun p => PyData.int (p.1 : Int)) none = .ok ((lowL L r l).map (fun p => PyData.tuple [.int (p.1 : Int), fr p.2]), none) := by
  have e : (lowL L r l).map (fun p => PyData.tuple [.int (p.1 : Int), fr p.2]) = L.map fun p => PyData.tuple [.int (p.1 : Int), fr (p.2 - l * r p.1)] := by unfold lowL; rw [List.map_map]; rfl
  rw [e]
  refine cL_map (fun p : Nat × Rat => PyData.int (p.1 : Int)) _ _ fun p hp => ⟨_, by simp; rfl, ?_⟩
  obtain ⟨h1, h2, h3⟩ := hk p hp
  have hv := valD_kvL p.1 L
  rw [mem_lk d hp] at hv
  have hix := ix_rtL (n := n) (h := p.1) (r := r) h1
  have hp1 := product_ok (a := l) (b := r p.1) (hl.mono (by decide)) (h3.mono (by decide))
  have hp2 := minus_ok (a := p.2) (b := l * r p.1) (h2.mono (by decide)) ((hl.mul h3).mono (by decide))
  simp [cE_share_pieces_5, hv, hix, hp1, hp2]
theorem share_c6 {A : List (Nat × Nat)} {L : List (Nat × Rat)} {x0 x1 x2 x4 x5 x6 x7 x8 x9 x10 x11 x12 : Option SV} :
    cL (gN 13) cC_share_pieces_6 cE_share_pieces_6 [x0, x1, x2, some (.dk (kvL L)), x4, x5, x6, x7, x8, x9, x10, x11, x12, none] (A.map pr) none = .ok ((keepA L A).map pr, none) := by
  unfold keepA
  refine cL_ty pr _ _ A fun p hp => ⟨_, by simp; rfl, ?_, fun _ => by simp [cE_share_pieces_6]⟩
  have hv := valD_kvL p.1 L
  cases hc : lk L p.1 with
  | none => rw [hc] at hv; simp [cC_share_pieces_6, hv]
  | some c =>
    rw [hc] at hv
    simp [cC_share_pieces_6, hv, neD_fr0]
theorem share_c7 {L : List (Nat × Rat)} {x0 x1 x2 x4 x5 x6 x7 x8 x10 x11 x12 x13 : Option SV} (d : Dis L) :
    cL (gN 9) cC_share_pieces_7 cE_share_pieces_7 [x0, x1, x2, some (.fd (kvL L)), x4, x5, x6, x7, x8, none, x10, x11, x12, x13] (L.map fun p => PyData.int (p.1 : Int)) none = .ok ((keepL L).map (fun p => PyData.tuple [.int (p.1 : Int), fr p.2]), none) := by
  unfold keepL
  refine cL_ty (fun p : Nat × Rat => PyData.int (p.1 : Int)) _ _ L fun p hp => ⟨_, by simp; rfl, ?_, fun _ => ?_⟩
  · have hv := valD_kvL p.1 L
    rw [mem_lk d hp] at hv
    simp [cC_share_pieces_7, hv, neD_fr0]
  · have hv := valD_kvL p.1 L
    rw [mem_lk d hp] at hv
    simp [cE_share_pieces_7, hv]
theorem kvL_keys {L : List (Nat × Rat)} : (kvL L).map (fun kv => PyData.int kv.1) = L.map fun p => PyData.int (p.1 : Int) := by unfold kvL; rw [List.map_map]; rfl
theorem dict_L {L : List (Nat × Rat)} (d : Dis L) : dictOf (.list (L.map fun p => .tuple [.int (p.1 : Int), fr p.2])) = some (kvL L) := by
  have := dictOf_map (f := fun p : Nat × Rat => p.1) (g := fun p : Nat × Rat => p.2) (xs := L) (by simpa using d)
  simpa using this
theorem kvL_len {L : List (Nat × Rat)} : (kvL L).length = L.length := by unfold kvL; rw [List.length_map]
theorem lnD_some {l : Rat} : lnD (some l) = fr l := rfl
/-- a whole turn of the loop -/
theorem share_turn {n : Nat} {A : List (Nat × Nat)} {L : List (Nat × Rat)} {x1 x2 j6 j7 j8 j9 j10 j11 x12 : Option SV} {fs : List Dt} (hn : n ≤ 5) (s : St A L) (hA : ∀ p ∈ A, p.1 < n ∧ p.2 ≤ 20) (h0 : A ≠ []) (hW : wsum A ≤ 100) (hb : ∀ h c, lk L h = some c → Bd 24 c) (hbl : ∀ l, lenOf L (wsum A : Rat) A none = some l → Bd 24 l)
    (k9 : keyB j9) (k10 : keyB j10) (hfs : fs.length ≤ 1000) (hlA : A.length ≤ 1000) (hlL : L.length ≤ 1000) :
    ∃ a9 a10 a11, keyB a9 ∧ keyB a10 ∧ wB_share_pieces_2 [some (.d (.int n)), x1, x2, some (.dk (kvL L)), some (.d (.list (A.map pr))), some (.own fs), j6, j7, j8, j9, j10, j11, x12, none] none =
      match lenOf L (wsum A : Rat) A none with
      | none => .rt (.d (.list (fs ++ [pcD n (none, rt A (wsum A : Rat))]))) none
      | some l => .nx [some (.d (.int n)), x1, x2, some (.dk (kvL (keepL (lowL L (rt A (wsum A : Rat)) l)))), some (.d (.list ((keepA (lowL L (rt A (wsum A : Rat)) l) A).map pr))), some (.own (fs ++ [pcD n (some l, rt A (wsum A : Rat))])), some (.d (.int (wsum A))), some (.own (rtL n (rt A (wsum A : Rat)))), some (.d (fr l)), a9, a10, a11, x12, none] none := by
  obtain ⟨a9, a10, a11, ⟨d9, d10, rfl, rfl⟩, hloop⟩ := share_loop (x1 := x1) (x2 := x2) (x5 := some (.own fs)) (x12 := x12) (x13 := none) (j9 := j9) (j10 := j10) (j11 := j11) s hA h0 hW hb
  refine ⟨_, _, a11, .inr ⟨d9, rfl⟩, .inr ⟨d10, rfl⟩, ?_⟩
  have hWn := wsum_pos s.wp h0
  have w1 := wipe2 (ρ := [some (.d (.int n)), x1, x2, some (.dk (kvL L)), some (.d (.list (A.map pr))), some (.own fs), j6, j7, j8, j9, j10, j11, x12, none]) (i := 9) (i' := 10) rfl rfl k9 k10
  have hc3 := share_c3 (A := A) (x0 := some (.d (.int n))) (x1 := x1) (x2 := x2) (x3 := some (.dk (kvL L))) (x4 := some (.d (.list (A.map pr)))) (x5 := some (.own fs)) (x6 := j6) (x7 := j7) (x8 := j8) (x11 := j11) (x12 := x12) (x13 := none)
  cases hl : lenOf L (wsum A : Rat) A none with
  | none =>
    rw [hl] at hloop
    simp only [wB_share_pieces_2]
    simp [w1, show A.length ≤ 100000 by omega, hc3, sumD_pairs, mulL_zero hn, hloop, lnD, pcD, show fs.length < 100000 by omega]
  | some l =>
    rw [hl] at hloop
    have hrb : ∀ h, Bd 13 (rt A (wsum A : Rat) h) := fun h => by
      unfold rt
      cases hq : lk A h with
      | none => exact (show Bd 13 (0 : Rat) from ⟨by decide, by decide⟩)
      | some x =>
        have := (hA _ (lk_mem hq)).2
        exact bd_frac hWn (by omega) (by omega)
    have hkL : ∀ p ∈ L, p.1 < n ∧ Bd 24 p.2 ∧ Bd 13 (rt A (wsum A : Rat) p.1) := fun p hp => by
      obtain ⟨q, hq, e⟩ := s.sub p hp
      exact ⟨by rw [← e]; exact (hA q hq).1, hb _ _ (mem_lk s.dL hp), hrb _⟩
    have dlow : Dis (lowL L (rt A (wsum A : Rat)) l) := dis_map (fun k c => c - l * rt A (wsum A : Rat) k) s.dL
    have hc5 := share_c5 (n := n) (L := L) (l := l) (r := rt A (wsum A : Rat)) (x1 := x1) (x2 := x2) (x4 := some (.d (.list (A.map pr)))) (x5 := some (.own (fs ++ [pcD n (some l, rt A (wsum A : Rat))]))) (x6 := some (.d (.int (wsum A)))) (x10 := some (.d d10)) (x11 := a11) (x12 := x12) (x13 := none) s.dL hkL (hbl l hl)
    have hd5 := dict_L dlow
    have hc6 := share_c6 (A := A) (L := lowL L (rt A (wsum A : Rat)) l) (x0 := some (.d (.int n))) (x1 := x1) (x2 := x2) (x4 := some (.d (.list (A.map pr)))) (x5 := some (.own (fs ++ [pcD n (some l, rt A (wsum A : Rat))]))) (x6 := some (.d (.int (wsum A)))) (x7 := some (.own (rtL n (rt A (wsum A : Rat))))) (x8 := some (.d (fr l))) (x9 := some (.d d9)) (x10 := some (.d d10)) (x11 := a11) (x12 := x12)
    have hc7 := share_c7 (L := lowL L (rt A (wsum A : Rat)) l) (x0 := some (.d (.int n))) (x1 := x1) (x2 := x2) (x4 := some (.d (.list ((keepA (lowL L (rt A (wsum A : Rat)) l) A).map pr)))) (x5 := some (.own (fs ++ [pcD n (some l, rt A (wsum A : Rat))]))) (x6 := some (.d (.int (wsum A)))) (x7 := some (.own (rtL n (rt A (wsum A : Rat))))) (x8 := some (.d (fr l))) (x10 := some (.d d10)) (x11 := a11) (x12 := x12) (x13 := none) dlow
    have hd7 := dict_L (List.Pairwise.filter (fun p : Nat × Rat => decide (p.2 ≠ 0)) dlow)
    have hll : (lowL L (rt A (wsum A : Rat)) l).length ≤ 100000 := by unfold lowL; rw [List.length_map]; omega
    have hla : ∀ A' : List (Nat × Nat), A'.length ≤ A.length → A'.length ≤ 100000 := fun A' h => by omega
    have e5 : (PyData.tuple [fr l, .tuple (rtL n (rt A (wsum A : Rat)))]) = pcD n (some l, rt A (wsum A : Rat)) := rfl
    simp only [wB_share_pieces_2]
    simp [w1, show A.length ≤ 100000 by omega, hc3, sumD_pairs, mulL_zero hn, hloop, show fs.length < 100000 by omega, lnD_some, e5, kvL_keys, kvL_len, show L.length ≤ 100000 by omega]
    simp [wipeOk, hc5, hd5, hc6, kvL_keys, kvL_len, hll, hc7, show A.length ≤ 100000 by omega]
    have e7 : keepL (lowL L (rt A (wsum A : Rat)) l) = (lowL L (rt A (wsum A : Rat)) l).filter fun p => decide (p.2 ≠ 0) := rfl
    rw [← e7] at hd7
    simp [hd7]
end Sx

namespace Sx
open PySem PySem.Spec PyProof.Rows L2 Mx
/-! data that may be compared -/
mutual
def flt : Nat → Dt → Bool
  | _, .none => true
  | _, .bool _ => true
  | _, .int _ => true
  | _, .str _ => false
  | k, .list ds => match k with
    | 0 => false
    | k + 1 => flts k ds
  | k, .tuple ds => match k with
    | 0 => false
    | k + 1 => flts k ds
  | _, .dict _ => false
def flts : Nat → List Dt → Bool
  | _, [] => true
  | k, d :: ds => flt k d && flts k ds
end
mutual
theorem flt_ok : ∀ (d : Dt) (k : Nat), flt k d = true → d.canLay0 = true ∧ d.depth ≤ k
  | .none, k, _ => ⟨rfl, Nat.zero_le _⟩
  | .bool _, k, _ => ⟨rfl, Nat.zero_le _⟩
  | .int _, k, _ => ⟨rfl, Nat.zero_le _⟩
  | .str _, k, h => by unfold flt at h; cases h
  | .list ds, 0, h => by unfold flt at h; cases h
  | .list ds, k + 1, h => by
    unfold flt at h
    have := flts_ok ds k h
    exact ⟨this.1, Nat.succ_le_succ this.2⟩
  | .tuple ds, 0, h => by unfold flt at h; cases h
  | .tuple ds, k + 1, h => by
    unfold flt at h
    have := flts_ok ds k h
    exact ⟨this.1, Nat.succ_le_succ this.2⟩
  | .dict _, k, h => by unfold flt at h; cases h
theorem flts_ok : ∀ (ds : List Dt) (k : Nat), flts k ds = true → PyData.canLayAll0 ds = true ∧ PyData.depthAll ds ≤ k
  | [], k, _ => ⟨rfl, Nat.zero_le _⟩
  | d :: ds, k, h => by
    unfold flts at h
    rw [Bool.and_eq_true] at h
    have h1 := flt_ok d k h.1
    have h2 := flts_ok ds k h.2
    exact ⟨by show (PyData.canLay0 d && PyData.canLayAll0 ds) = true; rw [h1.1, h2.1]; rfl, Nat.max_le.mpr ⟨h1.2, h2.2⟩⟩
end
theorem shaped_flt {d : Dt} {k : Nat} (h : flt k d = true) (hk : k ≤ 64) : SeqAt.shaped d = true := by
  obtain ⟨h1, h2⟩ := flt_ok d k h
  unfold SeqAt.shaped
  rw [h1, decide_eq_true (by omega)]
  rfl
mutual
theorem eqv_refl : ∀ (d : Dt) (k : Nat), flt k d = true → PyData.eqv d d = true
  | .none, k, _ => rfl
  | .bool b, k, _ => by show (b == b) = true; simp
  | .int i, k, _ => by show (i == i) = true; simp
  | .str _, k, h => by unfold flt at h; cases h
  | .list ds, 0, h => by unfold flt at h; cases h
  | .list ds, k + 1, h => by unfold flt at h; exact eqvAll_refl ds k h
  | .tuple ds, 0, h => by unfold flt at h; cases h
  | .tuple ds, k + 1, h => by unfold flt at h; exact eqvAll_refl ds k h
  | .dict _, k, h => by unfold flt at h; cases h
theorem eqvAll_refl : ∀ (ds : List Dt) (k : Nat), flts k ds = true → PyData.eqvAll ds ds = true
  | [], k, _ => rfl
  | d :: ds, k, h => by
    unfold flts at h
    rw [Bool.and_eq_true] at h
    show (PyData.eqv d d && PyData.eqvAll ds ds) = true
    rw [eqv_refl d k h.1, eqvAll_refl ds k h.2]; rfl
end
theorem flts_map {α : Type} {k : Nat} {f : α → Dt} : ∀ {xs : List α}, (∀ x ∈ xs, flt k (f x) = true) → flts k (xs.map f) = true
  | [], _ => rfl
  | x :: xs, h => by
    rw [List.map_cons]
    show (flt k (f x) && flts k (xs.map f)) = true
    rw [h x (by simp), flts_map fun y hy => h y (List.mem_cons_of_mem _ hy)]; rfl
theorem eqD_self {d : Dt} {k : Nat} (h : flt k d = true) (hk : k ≤ 64) : eqD d d = some (.bool true) := by
  unfold eqD; rw [shaped_flt h hk, eqv_refl d k h]; rfl
theorem neD_self {d : Dt} {k : Nat} (h : flt k d = true) (hk : k ≤ 64) : neD d d = some (.bool false) := by
  unfold neD; rw [shaped_flt h hk, eqv_refl d k h]; rfl
theorem flt_pr {k : Nat} {p : Nat × Nat} : flt (k + 1) (pr p) = true := rfl
theorem flt_fr {k : Nat} {q : Rat} : flt (k + 1) (fr q) = true := rfl
theorem neD_nil {ds : List Dt} {k : Nat} (h : flts k ds = true) (hk : k ≤ 60) : neD (.list ds) (.list []) = some (.bool (!ds.isEmpty)) := by
  unfold neD
  rw [shaped_flt (k := k + 1) (show flt (k + 1) (.list ds) = true from h) (by omega), show SeqAt.shaped (.list []) = true from rfl]
  cases ds <;> rfl
theorem eqD_nil {ds : List Dt} {k : Nat} (h : flts k ds = true) (hk : k ≤ 60) : eqD (.list ds) (.list []) = some (.bool ds.isEmpty) := by
  unfold eqD
  rw [shaped_flt (k := k + 1) (show flt (k + 1) (.list ds) = true from h) (by omega), show SeqAt.shaped (.list []) = true from rfl]
  cases ds <;> rfl
theorem spGo_fuel : ∀ (m m' : Nat) (A : List (Nat × Nat)) (L : List (Nat × Rat)), St A L → A.length < m → A.length < m' → spGo m A L = spGo m' A L
  | 0, _, A, L, _, h, _ => by omega
  | _, 0, A, L, _, _, h => by omega
  | m + 1, m' + 1, A, L, s, h, h' => by
    unfold spGo
    by_cases hA : A = []
    · rw [if_pos hA, if_pos hA]
    · rw [if_neg hA, if_neg hA]
      cases hl : lenOf L (wsum A : Rat) A none with
      | none => rfl
      | some l =>
        have nn := Ln.of s hA hl
        have := keepA_short s nn
        simp only
        rw [spGo_fuel m m' _ _ (s.next nn) (by omega) (by omega)]
theorem Lev.bdl {n : Nat} {w c A : List (Nat × Nat)} {L : List (Nat × Rat)} {t l : Rat} (k : (Rung.shares w c).Ok n) (s : St A L) (hA : A ≠ []) (v : Lev w c t A L) (hv : Lvl w c t) (nn : Ln A L l) (hW : wsum A ≤ 100) : Bd 24 l := by
  obtain ⟨v2, hv2, _⟩ := v.next s nn hA (fun p hp => (k.2.1.el p hp).2.1)
  have hWr := s.W hA
  obtain ⟨a, b, hb0, hb20, ha, ht⟩ := hv.ab k
  obtain ⟨a', b', hb0', hb20', ha', ht'⟩ := hv2.ab k
  have e : l = (((wsum A : Int) * ((a' : Int) * b - (a : Int) * b') : Int) : Rat) / ((b * b' : Nat) : Rat) := by
    have hbp : (0 : Rat) < (b : Rat) := Rat.natCast_pos.mpr hb0
    have hbp' : (0 : Rat) < (b' : Rat) := Rat.natCast_pos.mpr hb0'
    have hlw : l = (wsum A : Rat) * (t + l / (wsum A : Rat) - t) := by
      rw [show t + l / (wsum A : Rat) - t = l / (wsum A : Rat) by grind, Rat.mul_comm]
      exact (Rat.div_mul_cancel (by grind)).symm
    generalize t + l / (wsum A : Rat) = t2 at hlw ht'
    have : l * ((b * b' : Nat) : Rat) = (((wsum A : Int) * ((a' : Int) * b - (a : Int) * b') : Int) : Rat) := by
      rw [Rat.intCast_mul, Rat.intCast_sub, Rat.intCast_mul, Rat.intCast_mul, Rat.natCast_mul]
      rw [Rat.intCast_natCast, Rat.intCast_natCast, Rat.intCast_natCast, Rat.intCast_natCast, Rat.intCast_natCast, ← ht, ← ht', hlw]
      grind
    rw [← this]
    exact (Rat.mul_div_cancel (by have := Rat.mul_pos hbp hbp'; rw [Rat.natCast_mul]; grind)).symm
  rw [e]
  have hbb : b * b' ≤ 20 * 20 := Nat.mul_le_mul hb20 hb20'
  have hab1 : a' * b ≤ 999 * 20 := Nat.mul_le_mul ha' hb20
  have hab2 : a * b' ≤ 999 * 20 := Nat.mul_le_mul ha hb20'
  refine bd_fracI (Nat.mul_pos hb0 hb0') ?_ (by omega)
  rw [Int.natAbs_mul]
  have h1 : ((a' : Int) * b - (a : Int) * b').natAbs ≤ 19980 := by
    have e1 : (a' : Int) * b = ((a' * b : Nat) : Int) := by simp
    have e2 : (a : Int) * b' = ((a * b' : Nat) : Int) := by simp
    rw [e1, e2]; omega
  have h2 : ((wsum A : Nat) : Int).natAbs ≤ 100 := by omega
  exact Nat.lt_of_le_of_lt (Nat.mul_le_mul h2 h1) (by decide)
theorem share_while {n : Nat} {w c : List (Nat × Nat)} {x1 x2 x12 : Option SV} (k : (Rung.shares w c).Ok n) (hn : n ≤ 5) : ∀ (m : Nat) (A : List (Nat × Nat)) (L : List (Nat × Rat)) (t : Rat) (fs : List Dt) (j6 j7 j8 j9 j10 j11 : Option SV), St A L → Lev w c t A L → Lvl w c t → (∀ p ∈ A, p ∈ w) → A.length < m → L.length ≤ 1000 → fs.length + m ≤ 100 → keyB j9 → keyB j10 →
    (wL wC_share_pieces_2 wB_share_pieces_2 m [some (.d (.int n)), x1, x2, some (.dk (kvL L)), some (.d (.list (A.map pr))), some (.own fs), j6, j7, j8, j9, j10, j11, x12, none] none = .rt (.d (.list (fs ++ (spGo m A L).map (pcD n)))) none) ∨
    ∃ y3 y4 y6 y7 y8 y9 y10 y11, wL wC_share_pieces_2 wB_share_pieces_2 m [some (.d (.int n)), x1, x2, some (.dk (kvL L)), some (.d (.list (A.map pr))), some (.own fs), j6, j7, j8, j9, j10, j11, x12, none] none = .nx [some (.d (.int n)), x1, x2, y3, y4, some (.own (fs ++ (spGo m A L).map (pcD n))), y6, y7, y8, y9, y10, y11, x12, none] none
  | 0, A, L, t, fs, j6, j7, j8, j9, j10, j11, s, v, hv, hsub, hm, _, _, _, _ => by omega
  | m + 1, A, L, t, fs, j6, j7, j8, j9, j10, j11, s, v, hv, hsub, hm, hlL, hfs, k9, k10 => by
    have hAw : ∀ p ∈ A, p.2 ≤ 20 := fun p hp => (k.2.1.el p (hsub p hp)).2.2
    have hAlen : A.length ≤ 5 := by
      have := nodup_le (l := A.map (·.1)) (m := List.range n) (by
        unfold List.Nodup
        rw [List.pairwise_map]
        exact s.dA) fun a ha => by
          obtain ⟨p, hp, rfl⟩ := List.mem_map.mp ha
          exact List.mem_range.mpr (k.2.1.el p (hsub p hp)).1
      rw [List.length_map, List.length_range] at this
      omega
    have hWle : wsum A ≤ 100 := by
      have := wsum_le hAw
      have : 20 * A.length ≤ 20 * 5 := Nat.mul_le_mul_left _ hAlen
      omega
    have hcond : wC_share_pieces_2 [some (.d (.int n)), x1, x2, some (.dk (kvL L)), some (.d (.list (A.map pr))), some (.own fs), j6, j7, j8, j9, j10, j11, x12, none] none = .ok (!(A.map pr).isEmpty, none) := by
      have := neD_nil (ds := A.map pr) (k := 1) (flts_map fun p _ => flt_pr) (by decide)
      simp only [wC_share_pieces_2]
      simp only [bOf_s, eBin_s, eVar_s, eFrz_s, lLst_s, aNil_s]
      simp [this]
    by_cases hA : A = []
    · refine .inr ⟨some (.dk (kvL L)), some (.d (.list (A.map pr))), j6, j7, j8, j9, j10, j11, ?_⟩
      subst hA
      unfold wL
      rw [hcond]
      simp [spGo]
    · obtain ⟨a9, a10, a11, q9, q10, ht⟩ := share_turn (x1 := x1) (x2 := x2) (j6 := j6) (j7 := j7) (j8 := j8) (j11 := j11) (x12 := x12) (fs := fs) hn s (fun p hp => ⟨(k.2.1.el p (hsub p hp)).1, hAw p hp⟩) hA hWle (fun h x e => Lev.bdL k v hv e) (fun l hl => Lev.bdl k s hA v hv (Ln.of s hA hl) hWle) k9 k10 (by omega) (by omega) hlL
      have hne : (A.map pr).isEmpty = false := by cases A with
        | nil => exact absurd rfl hA
        | cons _ _ => rfl
      unfold wL
      rw [hcond, hne]
      simp only [rOut_ok, Bool.not_false, if_true]
      rw [ht]
      unfold spGo
      rw [if_neg hA]
      cases hl : lenOf L (wsum A : Rat) A none with
      | none => left; rfl
      | some l =>
        have nn := Ln.of s hA hl
        obtain ⟨v2, hv2, _⟩ := v.next s nn hA (fun p hp => (k.2.1.el p hp).2.1)
        have hsh := keepA_short s nn
        have hll : (keepL (lowL L (rt A (wsum A : Rat)) l)).length ≤ 1000 := by
          have h1 := List.length_filter_le (fun p : Nat × Rat => decide (p.2 ≠ 0)) (lowL L (rt A (wsum A : Rat)) l)
          have h2 : (lowL L (rt A (wsum A : Rat)) l).length = L.length := by unfold lowL; rw [List.length_map]
          unfold keepL
          omega
        have ih := share_while (x1 := x1) (x2 := x2) (x12 := x12) k hn m _ _ _ (fs ++ [pcD n (some l, rt A (wsum A : Rat))]) (some (.d (.int (wsum A)))) (some (.own (rtL n (rt A (wsum A : Rat))))) (some (.d (fr l))) a9 a10 a11 (s.next nn) v2 hv2 (fun p hp => hsub p (List.mem_filter.mp hp).1) (by omega) hll (by simp; omega) q9 q10
        simp only [List.append_assoc, List.singleton_append] at ih
        simp only [List.map_cons]
        exact ih
theorem share_pieces_ok {n : Nat} {w c : List (Nat × Nat)} (k : (Rung.shares w c).Ok n) (hn : n ≤ 5) : F_share_pieces [.int n, prs w, prs c] = .ok (.list ((pcs (.shares w c)).map (pcD n))) := by
  have hlc := pok_len k.2.2.1
  have hlw := pok_len k.2.1
  have hc1 : cL (gTu 2 (gsCons (gN 9) (gsCons (gN 12) gsNil))) bYes cE_share_pieces_1 [some (.d (.int n)), some (.d (prs w)), some (.d (prs c)), none, none, none, none, none, none, none, none, none, none, none] (c.map pr) none = .ok (c.map (fun p => PyData.tuple [.int (p.1 : Int), fr ((p.2 : Nat) : Rat)]), none) := by
    refine cL_map pr _ _ fun p hp => ⟨_, by simp; rfl, ?_⟩
    simp [cE_share_pieces_1]
    rfl
  have hd : dictOf (.list (c.map (fun p => PyData.tuple [.int (p.1 : Int), fr ((p.2 : Nat) : Rat)]))) = some (kvL (ratC c)) := dictOf_map (f := fun p : Nat × Nat => p.1) (g := fun p : Nat × Nat => ((p.2 : Nat) : Rat)) (xs := c) (dis_map (β := Nat) (fun (_ : Nat) (c : Nat) => (c : Rat)) k.2.2.1.dis)
  have hw := share_while (x1 := some (.d (prs w))) (x2 := some (.d (prs c))) (x12 := none) k hn 7 w (ratC c) 0 [] none none none none none none (St.of k) (Lev.start k) (.inl rfl) (fun _ h => h) (by omega) (by unfold ratC; rw [List.length_map]; omega) (by simp) (.inl rfl) (.inl rfl)
  have hfu : spGo 7 w (ratC c) = pcs (.shares w c) := spGo_fuel 7 (w.length + 1) w (ratC c) (St.of k) (by omega) (by omega)
  rw [hfu] at hw
  unfold F_share_pieces
  simp only [B_share_pieces]
  simp only [List.nil_append] at hw
  have hsw : ∀ ρ W, sWhile (fun _ => 7) wC_share_pieces_2 wB_share_pieces_2 ρ W = wL wC_share_pieces_2 wB_share_pieces_2 7 ρ W := fun _ _ => rfl
  rcases hw with hw | ⟨y3, y4, y6, y7, y8, y9, y10, y11, hw⟩
  · simp [hc1, hd, wipeOk, show c.length ≤ 100000 by omega, hsw, hw]
  · simp [hc1, hd, wipeOk, show c.length ≤ 100000 by omega, hsw, hw]
theorem rung_pieces_ok {n : Nat} {r : Rung} (k : r.Ok n) (hn : n ≤ 5) : F_rung_pieces [.int n, rd r] = .ok (.list ((pcs r).map (pcD n))) := by
  unfold F_rung_pieces
  simp only [B_rung_pieces]
  cases r with
  | fixed s =>
    have h := fixed_pieces_ok hn k.1 k.2
    simp [rd, h, pcs]
  | shares w c =>
    have h := share_pieces_ok k hn
    simp [rd, h]
end Sx

namespace Sx
open PySem PySem.Spec PyProof.Rows L2 Mx
def npD (n : Nat) (p : Nat × Pc) : Dt := .tuple [.int (p.1 : Int), lnD p.2.1, .tuple (rtL n p.2.2)]
def npcs : Nat → List Rung → List (Nat × Pc)
  | _, [] => []
  | i, r :: rs => (pcs r).map (fun pc => (i, pc)) ++ (if r.endless = true then [] else npcs (i + 1) rs)
theorem npcs_snd : ∀ (i : Nat) (rs : List Rung), (npcs i rs).map (·.2) = lpcs rs
  | _, [] => rfl
  | i, r :: rs => by
    unfold npcs lpcs
    rw [List.map_append, List.map_map]
    have e : (fun (x : Nat × Pc) => x.2) ∘ (fun pc : Pc => (i, pc)) = id := rfl
    rw [e, List.map_id]
    congr 1
    split
    · rfl
    · exact npcs_snd (i + 1) rs
@[simp] theorem gTu_pcD {n : Nat} {pc : Pc} {gs : SGs} {ρ : Sl} : gTu 2 gs (pcD n pc) ρ = gs [lnD pc.1, .tuple (rtL n pc.2)] ρ := by rfl
@[simp] theorem gTu_npD {n : Nat} {p : Nat × Pc} {gs : SGs} {ρ : Sl} : gTu 3 gs (npD n p) ρ = gs [.int (p.1 : Int), lnD p.2.1, .tuple (rtL n p.2.2)] ρ := by rfl
theorem spGo_len : ∀ (m : Nat) (A : List (Nat × Nat)) (L : List (Nat × Rat)), (spGo m A L).length ≤ m
  | 0, _, _ => Nat.zero_le _
  | m + 1, A, L => by
    unfold spGo
    split
    · exact Nat.zero_le _
    · split
      · simp
      · rw [List.length_cons]
        exact Nat.succ_le_succ (spGo_len m _ _)
theorem pcs_len {n : Nat} {r : Rung} (h : r.Ok n) (hn : n ≤ 5) : (pcs r).length ≤ 10 := by
  cases r with
  | fixed s => simp [pcs]
  | shares w c =>
    have := pok_len h.2.1
    have := spGo_len (w.length + 1) w (ratC c)
    show (spGo (w.length + 1) w (ratC c)).length ≤ 10
    omega
theorem pieces_comp {n i : Nat} {r : Rung} {x0 x1 x3 : Option SV} : cL (gTu 2 (gsCons (gN 4) (gsCons (gN 5) gsNil))) bYes cE_pieces_of_2 [x0, x1, some (.d (.int (i : Int))), x3, none, none] ((pcs r).map (pcD n)) none = .ok ((pcs r).map (fun pc => npD n (i, pc)), none) := by
  refine cL_map (pcD n) _ _ fun p hp => ⟨_, by simp; rfl, ?_⟩
  simp [cE_pieces_of_2]
  rfl
theorem pieces_loop {l : Lad} (hn : l.n ≤ 5) : ∀ (rs : List Rung) (i : Nat) (fs : List Dt) (a b : Option SV), (∀ r ∈ rs, r.Ok l.n) → (∃ r ∈ rs, r.endless = true) → fs.length + 10 * rs.length ≤ 1000 →
    fL (gTu 2 (gsCons (gN 2) (gsCons (gN 3) gsNil))) lB_pieces_of_1 (enumD i (rs.map rd)) [some (.d (ld l)), some (.own fs), a, b, none, none] none = .rt (.d (.list (fs ++ (npcs i rs).map (npD l.n)))) none
  | [], _, _, _, _, _, h, _ => by obtain ⟨r, hr, _⟩ := h; cases hr
  | r :: rs, i, fs, a, b, k, h, hl => by
    have hr := k r (by simp)
    have h1 := rung_pieces_ok hr hn
    have h2 := pcs_len hr hn
    have h3 := is_endless_ok r
    have h4 := pieces_comp (n := l.n) (i := i) (r := r) (x0 := some (.d (ld l))) (x1 := some (.own fs)) (x3 := some (.d (rd r)))
    rw [List.length_cons] at hl
    rw [List.map_cons]
    have e : enumD i (rd r :: rs.map rd) = .tuple [.int (i : Int), rd r] :: enumD (i + 1) (rs.map rd) := rfl
    rw [e, fL_cons]
    have eb : lB_pieces_of_1 [some (.d (ld l)), some (.own fs), some (.d (.int (i : Int))), some (.d (rd r)), none, none] none =
        if r.endless = true then .rt (.d (.list (fs ++ (pcs r).map (fun pc => npD l.n (i, pc))))) none else .nx [some (.d (ld l)), some (.own (fs ++ (pcs r).map (fun pc => npD l.n (i, pc)))), some (.d (.int (i : Int))), some (.d (rd r)), none, none] none := by
      simp only [lB_pieces_of_1]
      cases he : r.endless with
      | true =>
        rw [he] at h3
        simp [h1, h3, h4, wipeOk, show (pcs r).length ≤ 100000 by omega, show fs.length + (pcs r).length ≤ 100000 by omega]
      | false =>
        rw [he] at h3
        simp [h1, h3, h4, wipeOk, show (pcs r).length ≤ 100000 by omega, show fs.length + (pcs r).length ≤ 100000 by omega]
    simp only [gTu_s, gsCons_s, gN_s, gsNil_s, List.length_cons, List.length_nil, if_true, Option.bind_some]
    simp
    rw [eb]
    unfold npcs
    cases he : r.endless with
    | true =>
      simp only [if_true]
      rw [List.append_nil, List.map_map]
      rfl
    | false =>
      simp only [Bool.false_eq_true, if_false]
      rw [pieces_loop hn rs (i + 1) _ _ _ (fun q hq => k q (List.mem_cons_of_mem _ hq)) (by
        obtain ⟨q, hq, e2⟩ := h
        rcases List.mem_cons.mp hq with z | z
        · rw [z, he] at e2; cases e2
        · exact ⟨q, z, e2⟩) (by simp; omega)]
      rw [List.map_append, List.map_map, List.append_assoc]
      rfl
theorem pieces_of_ok {l : Lad} (k : l.Ok) : F_pieces_of [ld l] = .ok (.list ((npcs 0 l.rs).map (npD l.n))) := by
  have h4 := k.r4
  have h := pieces_loop (l := l) k.n5 l.rs 0 [] none none k.ok k.ex (by simp; omega)
  unfold F_pieces_of
  simp only [B_pieces_of]
  simp at h
  simp [h]
/-! bends -/
def rowD (b : Mx.Row) : Dt := .tuple [fr b.1, fr b.2.1, fr b.2.2]
theorem flt_row {k : Nat} {b : Mx.Row} : flt (k + 2) (rowD b) = true := rfl
def Rb (k : Nat) (b : Mx.Row) : Prop := Bd k b.1 ∧ Bd k b.2.1 ∧ Bd 13 b.2.2
theorem bends_add {n h : Nat} {x0 x5 y6 : Option SV} {r : Nat → Rat} (hh : h < n) (acc : List Mx.Row) (s p : Rat) (hl : acc.length ≤ 1000) :
    sIf (bOr (bOf (eBin eqD (eBor 2) (eFrz (lLst aNil)))) (bOf (eBin neD (eBin ixD (eBin ixD (eBor 2) (eUn negD (eC (.int 1)))) (eC (.int 2))) (eBin ixD (eVar 7) (eVar 1))))) (sApp 2 (eTup (aCons (eVar 3) (aCons (eVar 4) (aCons (eBin ixD (eVar 7) (eVar 1)) aNil))))) sPass
        [x0, some (.d (.int (h : Int))), some (.own (acc.map rowD)), some (.d (fr s)), some (.d (fr p)), x5, y6, some (.d (.tuple (rtL n r)))] none = .nx [x0, some (.d (.int (h : Int))), some (.own ((addR acc s p (r h)).map rowD)), some (.d (fr s)), some (.d (fr p)), x5, y6, some (.d (.tuple (rtL n r)))] none := by
  have hix := ix_rtL (n := n) (h := h) (r := r) hh
  have hnil := eqD_nil (ds := acc.map rowD) (k := 2) (flts_map fun b _ => flt_row) (by decide)
  have ha : ∀ D : List Dt, D.length < 100000 → sApp 2 (eTup (aCons (eVar 3) (aCons (eVar 4) (aCons (eBin ixD (eVar 7) (eVar 1)) aNil)))) [x0, some (.d (.int (h : Int))), some (.own D), some (.d (fr s)), some (.d (fr p)), x5, y6, some (.d (.tuple (rtL n r)))] none = .nx [x0, some (.d (.int (h : Int))), some (.own (D ++ [rowD (s, p, r h)])), some (.d (fr s)), some (.d (fr p)), x5, y6, some (.d (.tuple (rtL n r)))] none := fun D hD => by
    simp [hix, hD, rowD]
  have hlen : (acc.map rowD).length < 100000 := by rw [List.length_map]; omega
  rw [sIf_s]
  rcases List.eq_nil_or_concat acc with he | ⟨pre, b, he⟩
  · subst he
    have ec : bOr (bOf (eBin eqD (eBor 2) (eFrz (lLst aNil)))) (bOf (eBin neD (eBin ixD (eBin ixD (eBor 2) (eUn negD (eC (.int 1)))) (eC (.int 2))) (eBin ixD (eVar 7) (eVar 1)))) [x0, some (.d (.int (h : Int))), some (.own (([] : List Mx.Row).map rowD)), some (.d (fr s)), some (.d (fr p)), x5, y6, some (.d (.tuple (rtL n r)))] none = .ok (true, none) := by
      rw [bOr_s, bOf_s, eBin_s]
      simp only [eBor_s, eFrz_s, lLst_s, aNil_s]
      simp at hnil
      simp [hnil]
    rw [ec]
    simp only [rOut_ok, if_true]
    rw [ha _ hlen]
    rfl
  · rw [List.concat_eq_append] at he
    subst he
    have hat : atI ((pre ++ [b]).map rowD) (-1) = some (rowD b) := by rw [List.map_append]; exact atI_last
    have e1 : ((pre ++ [b]).map rowD).isEmpty = false := by simp
    rw [e1] at hnil
    have hne := neD_fr (a := b.2.2) (b := r h)
    have hr2 : ixD (rowD b) (.int 2) = some (fr b.2.2) := by rfl
    have ea : addR (pre ++ [b]) s p (r h) = if b.2.2 = r h then pre ++ [b] else (pre ++ [b]) ++ [(s, p, r h)] := by unfold addR; simp
    rw [ea]
    have em : ((pre ++ [b]) ++ [(s, p, r h)]).map rowD = (pre ++ [b]).map rowD ++ [rowD (s, p, r h)] := by rw [List.map_append]; rfl
    generalize hD : (pre ++ [b]).map rowD = D at *
    have ec : bOr (bOf (eBin eqD (eBor 2) (eFrz (lLst aNil)))) (bOf (eBin neD (eBin ixD (eBin ixD (eBor 2) (eUn negD (eC (.int 1)))) (eC (.int 2))) (eBin ixD (eVar 7) (eVar 1)))) [x0, some (.d (.int (h : Int))), some (.own D), some (.d (fr s)), some (.d (fr p)), x5, y6, some (.d (.tuple (rtL n r)))] none = .ok (!decide (b.2.2 = r h), none) := by
      simp [hnil, hat, hr2, hix, hne]
    rw [ec]
    simp only [rOut_ok]
    by_cases hq : b.2.2 = r h
    · rw [if_pos hq, decide_eq_true hq, hD]
      rfl
    · rw [if_neg hq, decide_eq_false hq, em]
      simp only [Bool.not_false, if_true]
      exact ha D hlen
theorem bends_loop {n h : Nat} {x0 : Option SV} (hh : h < n) : ∀ (ps : List (Nat × Pc)) (acc : List Mx.Row) (s p : Rat) (j5 j6 j7 : Option SV), Gd h s p (ps.map (·.2)) → acc.length + ps.length ≤ 1000 →
    ∃ y3 y4 y5 y6 y7, fL (gTu 3 (gsCons (gN 5) (gsCons (gN 6) (gsCons (gN 7) gsNil)))) lB_found_bends_1 (ps.map (npD n)) [x0, some (.d (.int (h : Int))), some (.own (acc.map rowD)), some (.d (fr s)), some (.d (fr p)), j5, j6, j7] none =
      .nx [x0, some (.d (.int (h : Int))), some (.own ((bgo h (ps.map (·.2)) acc s p).map rowD)), y3, y4, y5, y6, y7] none
  | [], acc, s, p, j5, j6, j7, _, _ => ⟨_, _, _, _, _, rfl⟩
  | (i, o, r) :: ps, acc, s, p, j5, j6, j7, gd, hl => by
    rw [List.length_cons] at hl
    have hix := ix_rtL (n := n) (h := h) (r := r) hh
    have hadd := bends_add (x0 := x0) (x5 := some (.d (.int (i : Int)))) (y6 := some (.d (lnD o))) (r := r) hh acc s p (by omega)
    have hal : (addR acc s p (r h)).length ≤ acc.length + 1 := by
      unfold addR
      split
      · simp
      · split
        · omega
        · simp
    rw [List.map_cons, fL_cons]
    have eg : gTu 3 (gsCons (gN 5) (gsCons (gN 6) (gsCons (gN 7) gsNil))) (npD n (i, o, r)) [x0, some (.d (.int (h : Int))), some (.own (acc.map rowD)), some (.d (fr s)), some (.d (fr p)), j5, j6, j7] = some [x0, some (.d (.int (h : Int))), some (.own (acc.map rowD)), some (.d (fr s)), some (.d (fr p)), some (.d (.int (i : Int))), some (.d (lnD o)), some (.d (.tuple (rtL n r)))] := by simp
    rw [eg]
    simp only
    cases o with
    | none =>
      obtain ⟨g1, g2, g3, g4⟩ := gd
      have hps : ps = [] := by simpa using g4
      subst hps
      have eb : lB_found_bends_1 [x0, some (.d (.int (h : Int))), some (.own (acc.map rowD)), some (.d (fr s)), some (.d (fr p)), some (.d (.int (i : Int))), some (.d (lnD none)), some (.d (.tuple (rtL n r)))] none = .nx [x0, some (.d (.int (h : Int))), some (.own ((addR acc s p (r h)).map rowD)), some (.d (fr s)), some (.d (fr p)), some (.d (.int (i : Int))), some (.d (lnD none)), some (.d (.tuple (rtL n r)))] none := by
        simp only [lB_found_bends_1]
        rw [sSeq_s, hadd]
        simp [lnD]
      rw [eb]
      exact ⟨_, _, _, _, _, rfl⟩
    | some l =>
      obtain ⟨g1, g2, g3, g4, g5⟩ := gd
      have p1 := plus_ok (a := s) (b := l) (g1.mono (by decide)) (g4.mono (by decide))
      have p2 := product_ok (a := l) (b := r h) (g4.mono (by decide)) (g3.mono (by decide))
      have p3 := plus_ok (a := p) (b := l * r h) (g2.mono (by decide)) ((g4.mul g3).mono (by decide))
      have eb : lB_found_bends_1 [x0, some (.d (.int (h : Int))), some (.own (acc.map rowD)), some (.d (fr s)), some (.d (fr p)), some (.d (.int (i : Int))), some (.d (lnD (some l))), some (.d (.tuple (rtL n r)))] none = .nx [x0, some (.d (.int (h : Int))), some (.own ((addR acc s p (r h)).map rowD)), some (.d (fr (s + l))), some (.d (fr (p + l * r h))), some (.d (.int (i : Int))), some (.d (lnD (some l))), some (.d (.tuple (rtL n r)))] none := by
        simp only [lB_found_bends_1]
        rw [sSeq_s, hadd]
        simp [lnD, p1, p2, p3, hix]
      rw [eb]
      exact bends_loop hh ps (addR acc s p (r h)) (s + l) (p + l * r h) _ _ _ g5 (by omega)
theorem npcs_len {n : Nat} (hn : n ≤ 5) : ∀ (i : Nat) (rs : List Rung), (∀ r ∈ rs, r.Ok n) → (npcs i rs).length ≤ 10 * rs.length
  | _, [], _ => Nat.le_refl _
  | i, r :: rs, k => by
    have h1 := pcs_len (k r (by simp)) hn
    have h2 := npcs_len hn (i + 1) rs fun q hq => k q (List.mem_cons_of_mem _ hq)
    unfold npcs
    rw [List.length_append, List.length_map, List.length_cons]
    split
    · simp; omega
    · omega
theorem found_bends_ok {l : Lad} {h : Nat} (k : l.Ok) (hh : h < l.n) : F_found_bends [ld l, .int (h : Int)] = .ok (.list ((rowsL l.rs h).map rowD)) := by
  have h4 := k.r4
  have hp := pieces_of_ok k
  have hl := npcs_len k.n5 0 l.rs k.ok
  have gd := k.gd h
  rw [← npcs_snd 0] at gd
  obtain ⟨y3, y4, y5, y6, y7, hf⟩ := bends_loop (x0 := some (.d (ld l))) hh (npcs 0 l.rs) [] 0 0 none none none gd (by simp; omega)
  rw [npcs_snd] at hf
  have e0 : bgo h (lpcs l.rs) [] 0 0 = rowsL l.rs h := rfl
  rw [e0] at hf
  have hf' : fL (gTu 3 (gsCons (gN 5) (gsCons (gN 6) (gsCons (gN 7) gsNil)))) lB_found_bends_1 ((npcs 0 l.rs).map (npD l.n)) [some (.d (ld l)), some (.d (.int (h : Int))), some (.own []), some (.d (.tuple [.int 0, .int 1])), some (.d (.tuple [.int 0, .int 1])), none, none, none] none = _ := hf
  unfold F_found_bends
  simp only [B_found_bends]
  simp [hp, hf']
end Sx

namespace Sx
open PySem PySem.Spec PyProof.Rows L2 Mx
theorem rows_bd {h : Nat} : ∀ (ps : List Pc) (acc : List Mx.Row) (s p : Rat), Gd h s p ps → (∀ b ∈ acc, Rb 24 b) → ∀ b ∈ bgo h ps acc s p, Rb 24 b
  | [], acc, s, p, _, k, b, hb => k b hb
  | (o, r) :: ps, acc, s, p, gd, k, b, hb => by
    have hadd : Bd 24 s → Bd 24 p → Bd 13 (r h) → ∀ b ∈ addR acc s p (r h), Rb 24 b := fun h1 h2 h3 b hb => by
      have hnew : ∀ b ∈ acc ++ [(s, p, r h)], Rb 24 b := fun b hb => by
        rcases List.mem_append.mp hb with z | z
        · exact k b z
        · rw [List.mem_singleton.mp z]; exact ⟨h1, h2, h3⟩
      unfold addR at hb
      split at hb
      · exact hnew b hb
      · split at hb
        · exact k b hb
        · exact hnew b hb
    cases o with
    | none =>
      obtain ⟨g1, g2, g3, g4⟩ := gd
      subst g4
      exact hadd g1 g2 g3 b hb
    | some l =>
      obtain ⟨g1, g2, g3, g4, g5⟩ := gd
      exact rows_bd ps _ _ _ g5 (hadd g1 g2 g3) b hb
theorem rows_first {n : Nat} {rs : List Rung} {h : Nat} (k : ∀ r ∈ rs, r.Ok n) (e : ∃ r ∈ rs, r.endless = true) : ∃ r m, rowsL rs h = (0, 0, r) :: m := by
  have h1 := lpcs_ok k
  have h2 := lpcs_end k e
  unfold rowsL
  cases hp : lpcs rs with
  | nil => rw [hp] at h2; obtain ⟨qs, r, e, _⟩ := h2; simp at e
  | cons pc ps =>
    rw [hp] at h1
    obtain ⟨o, r⟩ := pc
    have k' : ∀ pc ∈ ps, PcOk n pc := fun pc hp => h1 pc (List.mem_cons_of_mem _ hp)
    cases o with
    | none =>
      obtain ⟨m, e, _⟩ := bgo_ext (n := n) (h := h) ps [(0, 0, r h)] 0 0 k'
      exact ⟨r h, m, e⟩
    | some l =>
      obtain ⟨m, e, _⟩ := bgo_ext (n := n) (h := h) ps [(0, 0, r h)] (0 + l) (0 + l * r h) k'
      exact ⟨r h, m, e⟩
@[simp] theorem gTu_row {b : Mx.Row} {gs : SGs} {ρ : Sl} : gTu 3 gs (rowD b) ρ = gs [fr b.1, fr b.2.1, fr b.2.2] ρ := by rfl
@[simp] theorem ix_row0 {b : Mx.Row} : ixD (rowD b) (.int 0) = some (fr b.1) := by rfl
@[simp] theorem ix_row1 {b : Mx.Row} : ixD (rowD b) (.int 1) = some (fr b.2.1) := by rfl
@[simp] theorem ix_row2 {b : Mx.Row} : ixD (rowD b) (.int 2) = some (fr b.2.2) := by rfl
theorem payment_at_ok {rows : List Mx.Row} {x : Rat} {r : Rat} {m : List Mx.Row} {k : Nat} (hb : ∀ b ∈ rows, Rb 24 b) (hx : 0 ≤ x) (hxb : Bd k x) (hk : k ≤ 3000) (hr : rows = (0, 0, r) :: m) (hl : rows.length ≤ 1000) : F_payment_at [.list (rows.map rowD), fr x] = .ok (fr (payR rows x)) ∧ Bd (k + 63) (payR rows x) := by
  have hc : cL (gN 6) cC_payment_at_1 cE_payment_at_1 [some (.d (.list (rows.map rowD))), some (.d (fr x)), none, none, none, none, none] (rows.map rowD) none = .ok ((upTo rows x).map rowD, none) := by
    unfold Mx.upTo
    refine cL_ty rowD _ _ rows fun b hb' => ⟨_, by simp; rfl, ?_, fun _ => by simp [cE_payment_at_1]⟩
    have := is_less_ok (a := x) (b := b.1) (hxb.mono (by omega)) ((hb b hb').1.mono (by decide))
    simp [cC_payment_at_1, this]
  have hne : upTo rows x ≠ [] := by
    have : (0, 0, r) ∈ upTo rows x := by
      unfold Mx.upTo
      rw [List.mem_filter, hr]
      exact ⟨by simp, by simp; exact Rat.not_lt.mpr hx⟩
    exact fun z => by rw [z] at this; cases this
  rcases List.eq_nil_or_concat (upTo rows x) with he | ⟨pre, b, he⟩
  · exact absurd he hne
  · rw [List.concat_eq_append] at he
    have hbm : b ∈ rows := by
      have : b ∈ upTo rows x := by rw [he]; simp
      exact (List.mem_filter.mp this).1
    obtain ⟨b1, b2, b3⟩ := hb b hbm
    have hp : payR rows x = b.2.1 + b.2.2 * (x - b.1) := by unfold payR; rw [he]; simp
    have hat : atI ((upTo rows x).map rowD) (-1) = some (rowD b) := by rw [he, List.map_append]; exact atI_last
    have p1 := minus_ok (a := x) (b := b.1) (hxb.mono (by omega)) (b1.mono (by decide))
    have bd1 := hxb.sub b1
    have p2 := product_ok (a := b.2.2) (b := x - b.1) (b3.mono (by decide)) (bd1.mono (by omega))
    have bd2 := b3.mul bd1
    have p3 := plus_ok (a := b.2.1) (b := b.2.2 * (x - b.1)) (b2.mono (by decide)) (bd2.mono (by omega))
    rw [hp]
    refine ⟨?_, (b2.add bd2).mono (by omega)⟩
    unfold F_payment_at
    simp only [B_payment_at]
    generalize hD : (upTo rows x).map rowD = D at *
    simp [hc, wipeOk, show rows.length ≤ 100000 by omega, hat, p1, p2, p3]
theorem rowsL_len {l : Lad} (k : l.Ok) (h : Nat) : (rowsL l.rs h).length ≤ 1000 := by
  have h1 : ∀ (ps : List Pc) (acc : List Mx.Row) (s p : Rat), (bgo h ps acc s p).length ≤ acc.length + ps.length := by
    intro ps
    induction ps with
    | nil => intro acc s p; exact Nat.le_refl _
    | cons pc ps ih =>
      intro acc s p
      obtain ⟨o, r⟩ := pc
      have hal : (addR acc s p (r h)).length ≤ acc.length + 1 := by
        unfold addR
        split
        · simp
        · split
          · omega
          · simp
      rw [List.length_cons]
      cases o with
      | none => have := ih (addR acc s p (r h)) s p; show (bgo h ps _ _ _).length ≤ _; omega
      | some l => have := ih (addR acc s p (r h)) (s + l) (p + l * r h); show (bgo h ps _ _ _).length ≤ _; omega
  have h2 := h1 (lpcs l.rs) [] 0 0
  have h3 := npcs_len k.n5 0 l.rs k.ok
  have h4 := k.r4
  have h5 : (lpcs l.rs).length = (npcs 0 l.rs).length := by rw [← npcs_snd 0, List.length_map]
  unfold rowsL
  simp at h2
  omega
theorem rowsL_bd {l : Lad} (k : l.Ok) (h : Nat) : ∀ b ∈ rowsL l.rs h, Rb 24 b := rows_bd _ _ _ _ (k.gd h) fun b hb => by cases hb
theorem pay_one {l : Lad} {h k : Nat} {x : Rat} (hk : l.Ok) (hh : h < l.n) (hx : 0 ≤ x) (hxb : Bd k x) (hkk : k ≤ 3000) : F_payment_at [.list ((rowsL l.rs h).map rowD), fr x] = .ok (fr (l.T x h)) ∧ Bd (k + 63) (l.T x h) := by
  obtain ⟨r, m, e⟩ := rows_first (h := h) hk.ok hk.ex
  have := payment_at_ok (rowsL_bd hk h) hx hxb hkk e (rowsL_len hk h)
  rw [rows_pay hk.ok hk.ex hx] at this
  exact this
theorem rngOf_n {n : Nat} (h : n ≤ 1000) : rngOf [.int (n : Int)] = some ((List.range n).map fun (i : Nat) => PyData.int (i : Int)) := by
  show (if (n : Int) ≤ 100000 ∧ -100000 ≤ (n : Int) then some (rngD (n : Int)) else none) = _
  rw [if_pos (by omega)]
  rfl
theorem all_payments_ok {l : Lad} {k : Nat} {x : Rat} (hk : l.Ok) (hx : 0 ≤ x) (hxb : Bd k x) (hkk : k ≤ 3000) : F_all_payments [ld l, fr x] = .ok (.tuple (rtL l.n (l.T x))) := by
  have h5 := hk.n5
  have hc : cL (gN 2) bYes cE_all_payments_1 [some (.d (ld l)), some (.d (fr x)), none] ((List.range l.n).map fun (i : Nat) => PyData.int (i : Int)) none = .ok (rtL l.n (l.T x), none) := by
    unfold rtL
    refine cL_map (fun (i : Nat) => PyData.int (i : Int)) _ _ fun i hi => ⟨_, by simp; rfl, ?_⟩
    have hi := List.mem_range.mp hi
    have h1 := found_bends_ok hk hi
    have h2 := (pay_one hk hi hx hxb hkk).1
    simp [cE_all_payments_1, h1, h2]
  unfold F_all_payments
  simp only [B_all_payments]
  simp [rngOf_n (show l.n ≤ 1000 by omega), wipeOk, show l.n ≤ 100000 by omega, hc]
theorem pay_ok {l : Lad} {x : Rat} (hk : l.Ok) (hx : Amt x) : F_pay [ld l, fr x] = .ok (.tuple (rtL l.n (l.T x))) := by
  unfold F_pay
  simp only [B_pay]
  simp [check_ladder_ok hk, check_amount_ok hx, all_payments_ok hk hx.nn hx.bd (by decide)]
theorem zip_rtL {n : Nat} {f g : Nat → Rat} : zipD (rtL n f) (rtL n g) = (List.range n).map fun h => PyData.tuple [fr (f h), fr (g h)] := by
  unfold zipD rtL
  rw [List.zipWith_map]
  induction n with
  | zero => rfl
  | succ n ih =>
    rw [List.range_succ, List.zipWith_append (by simp), ih, List.map_append]
    rfl
theorem pay_next_ok {l : Lad} {x y : Rat} (hk : l.Ok) (hx : Amt x) (hy : Amt y) : F_pay_next [ld l, fr x, fr y] = .ok (.tuple (rtL l.n fun h => l.T (x + y) h - l.T x h)) := by
  have h5 := hk.n5
  have hxy : 0 ≤ x + y := Rat.add_nonneg hx.nn hy.nn
  have hbd := hx.bd.add hy.bd
  have h1 := all_payments_ok hk hx.nn hx.bd (by decide)
  have h2 := all_payments_ok hk hxy hbd (by decide)
  have hp := plus_ok (hx.bd.mono (show 30 ≤ 4000 by decide)) (hy.bd.mono (show 30 ≤ 4000 by decide))
  have hc : ∀ x0 x1 x2 x3 x4 : Option SV, cL (gTu 2 (gsCons (gN 5) (gsCons (gN 6) gsNil))) bYes cE_pay_next_1 [x0, x1, x2, x3, x4, none, none] ((List.range l.n).map fun h => PyData.tuple [fr (l.T (x + y) h), fr (l.T x h)]) none = .ok (rtL l.n fun h => l.T (x + y) h - l.T x h, none) := fun x0 x1 x2 x3 x4 => by
    unfold rtL
    refine cL_map (fun h => PyData.tuple [fr (l.T (x + y) h), fr (l.T x h)]) _ _ fun i hi => ⟨_, by simp; rfl, ?_⟩
    have hi := List.mem_range.mp hi
    have b1 := (pay_one hk hi hx.nn hx.bd (by decide)).2
    have b2 := (pay_one hk hi hxy hbd (by decide)).2
    have := minus_ok (b2.mono (show 30 + 30 + 1 + 63 ≤ 4000 by decide)) (b1.mono (show 30 + 63 ≤ 4000 by decide))
    simp [cE_pay_next_1, this]
  unfold F_pay_next
  simp only [B_pay_next]
  simp [check_ladder_ok hk, check_amount_ok hx, check_amount_ok hy, h1, h2, hp, zip_rtL, wipeOk, show l.n ≤ 100000 by omega, hc]
end Sx

namespace Sx
open PySem PySem.Spec PyProof.Rows L2 Mx
/-! ### draws -/
abbrev iD (n : Nat) : Dt := .int (n : Int)
def scD (ns : List Int) : Dt := .list (ns.map PyData.int)
def Tn (ns : List Int) (m : Nat) (ws : List Dt) : Prop := ∃ (c : Nat) (zs : List Int), ws = .int (c : Int) :: zs.map PyData.int ∧ zs.length = ns.length ∧ c + m ≤ 1000000
theorem Tn.mono {ns : List Int} {m m' : Nat} {ws : List Dt} (h : Tn ns m ws) (hm : m' ≤ m) : Tn ns m' ws := by
  obtain ⟨c, zs, h1, h2, h3⟩ := h
  exact ⟨c, zs, h1, h2, by omega⟩
theorem town_ok (ns : List Int) (h : ns.length ≤ 63) : F__law_town [scD ns] = .ok (.int 0 :: ns.map PyData.int) := by
  unfold F__law_town
  simp only [B__law_town, scD]
  have : addL (.list [.int 0]) (.list (ns.map PyData.int)) = some (.int 0 :: ns.map PyData.int) := by
    show (if ([PyData.int 0] : List Dt).length + (ns.map PyData.int).length ≤ 100000 then some ([PyData.int 0] ++ ns.map PyData.int) else none) = _
    rw [if_pos (by simp; omega)]; rfl
  simp [this]
theorem Tn.start (ns : List Int) : Tn ns 1000000 (.int 0 :: ns.map PyData.int) := ⟨0, ns, rfl, rfl, by omega⟩
theorem flts_ints {k : Nat} (ns : List Int) : flts k (ns.map PyData.int) = true := flts_map fun _ _ => by cases k <;> rfl
theorem atI_ints {ns : List Int} {i : Nat} (h : i < ns.length) : atI (ns.map PyData.int) (i : Int) = some (.int (ns.getD i 0)) := by
  rw [atI_nat (by simpa using h), List.getElem?_map, List.getD_eq_getElem?_getD, List.getElem?_eq_getElem h]; rfl
theorem setD_0 {c : Dt} {zs : List Dt} {d : Dt} : setD (c :: zs) (.int 0) d = some (d :: zs) := by
  show (ixN (c :: zs).length 0).map _ = _
  have : ixN (c :: zs).length 0 = some 0 := by
    have := ixN_nat (n := (c :: zs).length) (h := 0) (by simp)
    simpa using this
  rw [this]; rfl
theorem setD_s {c : Dt} {zs : List Int} {d : Int} {i : Nat} (h : i < zs.length) : setD (c :: zs.map PyData.int) (.int (1 + (i : Int))) (.int d) = some (c :: (zs.set i d).map PyData.int) := by
  show (ixN (c :: zs.map PyData.int).length (1 + (i : Int))).map _ = _
  have e : ((1 : Int) + (i : Int)) = ((1 + i : Nat) : Int) := by omega
  rw [e, ixN_nat (by simp; omega), show 1 + i = i + 1 by omega]
  show some (c :: (zs.map PyData.int).set i (.int d)) = _
  rw [List.map_set]
theorem atI_s {c : Dt} {zs : List Int} {i : Nat} (h : i < zs.length) : atI (c :: zs.map PyData.int) (1 + (i : Int)) = some (.int (zs.getD i 0)) := by
  have e : ((1 : Int) + (i : Int)) = ((i + 1 : Nat) : Int) := by omega
  rw [e, atI_nat (by simp; omega), List.getElem?_cons_succ, List.getElem?_map, List.getD_eq_getElem?_getD, List.getElem?_eq_getElem h]; rfl
theorem powD_i {a : Int} {b : Nat} (h : a.natAbs < 2 ^ 64) (hb : b ≤ 1000000) : powD (.int a) (.int (b : Int)) = some (.int (a ^ b)) := by
  show (if 0 ≤ (b : Int) ∧ (b : Int) ≤ 1000000 ∧ a.natAbs < 2 ^ 64 then some (PyData.int (a ^ (b : Int).toNat)) else none) = _
  rw [if_pos ⟨by omega, by omega, h⟩, Int.toNat_natCast]
theorem draw_ok {ns : List Int} {m L : Nat} {ws : List Dt} (hl : ns.length ≤ 63) (hL : 0 < L) (hLb : L < 2 ^ 64) (t : Tn ns (m + 1) ws) : ∃ (d : Nat) (ws' : List Dt), F__law_draw [scD ns, .int (L : Int)] ws = .ok (iD d, ws') ∧ d < L ∧ Tn ns m ws' := by
  obtain ⟨c, zs, rfl, hz, hc⟩ := t
  have hm : ∀ x : Int, ∃ d : Nat, x % (L : Int) = (d : Int) ∧ d < L := fun x => by
    have h1 := Int.emod_nonneg x (show (L : Int) ≠ 0 by omega)
    have h2 := Int.emod_lt_of_pos x (show (0 : Int) < (L : Int) by omega)
    exact ⟨(x % (L : Int)).toNat, by omega, by omega⟩
  have hLlog : (L : Nat).log2 < 9000 := by
    rw [Nat.log2_lt (by omega)]
    exact Nat.lt_of_lt_of_le hLb (Nat.pow_le_pow_right (by decide) (by decide))
  have hcc : ((c : Int) + 1).natAbs < 2 ^ 20 := by
    have : ((c : Int) + 1).natAbs ≤ 1000000 := by omega
    exact Nat.lt_of_le_of_lt this (by decide)
  by_cases hns : ns = []
  · subst hns
    have hz0 : zs = [] := List.eq_nil_of_length_eq_zero hz
    subst hz0
    obtain ⟨d, hd, hd2⟩ := hm (((c : Int) + 1) * ((c : Int) + 1) * 7 / 3)
    refine ⟨d, [.int ((c : Int) + 1)], ?_, hd2, c + 1, [], rfl, rfl, by omega⟩
    have m1 : mulOk ((c : Int) + 1) ((c : Int) + 1) = true := mulOk_of hcc hcc (by decide)
    have m2 : mulOk (((c : Int) + 1) * ((c : Int) + 1)) 7 = true := mulOk_of (j := 40) (k := 3) (by rw [Int.natAbs_mul]; exact mul_lt_pow hcc hcc) (by decide) (by decide)
    have hnil : eqD (scD []) (.list []) = some (.bool true) := eqD_nil (k := 1) rfl (by decide)
    unfold F__law_draw
    simp only [B__law_draw]
    simp [setD_0, hnil, m1, m2, hL, hd, show Nat.log2 3 < 9000 by decide]
  · have hpos : 0 < ns.length := List.length_pos_iff.mpr hns
    have hnil : eqD (scD ns) (.list []) = some (.bool false) := by
      have := eqD_nil (ds := ns.map PyData.int) (k := 1) (flts_ints ns) (by decide)
      unfold scD
      rw [this]
      cases ns with
      | nil => exact absurd rfl hns
      | cons _ _ => rfl
    obtain ⟨i, hi, hi2⟩ : ∃ i : Nat, ((c : Int) + 1) % (ns.length : Int) = (i : Int) ∧ i < ns.length := by
      have h1 := Int.emod_nonneg ((c : Int) + 1) (show (ns.length : Int) ≠ 0 by omega)
      have h2 := Int.emod_lt_of_pos ((c : Int) + 1) (show (0 : Int) < (ns.length : Int) by omega)
      exact ⟨(((c : Int) + 1) % (ns.length : Int)).toNat, by omega, by omega⟩
    have hlen : lenD [scD ns] = some (.int ns.length) := by unfold scD; simp
    have hat := atI_ints (ns := ns) hi2
    have hats : ixD (scD ns) (.int (i : Int)) = some (.int (ns.getD i 0)) := hat
    have hatz := fun c0 : Dt => atI_s (c := c0) (zs := zs) (i := i) (by omega)
    have hset := fun d : Int => setD_s (c := PyData.int ((c : Int) + 1)) (zs := zs) (d := d) (i := i) (by omega)
    have hp18 : powD (.int 10) (.int 18) = some (.int (10 ^ 18)) := powD_i (a := 10) (b := 18) (by decide) (by decide)
    by_cases hbig : (1000000000000000000 : Int) ≤ ns.getD i 0 ∧ 0 < zs.getD i 0
    · obtain ⟨d, hd, hd2⟩ := hm (zs.getD i 0)
      refine ⟨d, .int ((c : Int) + 1) :: (zs.set i (zs.getD i 0 / (L : Int))).map PyData.int, ?_, hd2, c + 1, _, rfl, by rw [List.length_set]; exact hz, by omega⟩
      unfold F__law_draw
      simp only [B__law_draw]
      simp only [List.getD_eq_getElem?_getD] at hats hatz hset hbig hd ⊢
      simp [setD_0, hnil, hlen, hpos, hi, hats, hatz, hset, hp18, hbig.1, hbig.2, hL, hLlog, hd]
    · have hb5 : ∀ x : Int, ∃ y : Nat, x % 4294967291 = (y : Int) ∧ y < 4294967291 := fun x => ⟨(x % 4294967291).toNat, by omega, by omega⟩
      obtain ⟨y, hy, hy2⟩ := hb5 (ns.getD i 0 + 104729 * ((c : Int) + 1))
      obtain ⟨z, hz1, hz2⟩ : ∃ z : Nat, ((y : Int) ^ 5) % 4294967279 = (z : Int) ∧ z < 4294967279 := ⟨(((y : Int) ^ 5) % 4294967279).toNat, by omega, by omega⟩
      obtain ⟨d, hd, hd2⟩ := hm (((z : Int) / 64 * 69621 + z) % 4294967231 / 8)
      refine ⟨d, .int ((c : Int) + 1) :: zs.map PyData.int, ?_, hd2, c + 1, zs, rfl, hz, by omega⟩
      have m1 : mulOk 104729 ((c : Int) + 1) = true := mulOk_of (j := 20) (k := 20) (by decide) hcc (by decide)
      have m2 : mulOk ((z : Int) / 64) 69621 = true := mulOk_of (j := 33) (k := 20) (by
        have : ((z : Int) / 64).natAbs ≤ 4294967279 := by omega
        exact Nat.lt_of_le_of_lt this (by decide)) (by decide) (by decide)
      have hpw : powD (.int (y : Int)) (.int 5) = some (.int ((y : Int) ^ 5)) := powD_i (a := (y : Int)) (b := 5) (by
        have : (y : Int).natAbs ≤ 4294967291 := by omega
        exact Nat.lt_of_le_of_lt this (by decide)) (by decide)
      have hcnd : ∀ (ρ : Sl) (W : Tw), True := fun _ _ => trivial
      unfold F__law_draw
      simp only [B__law_draw]
      simp only [List.getD_eq_getElem?_getD] at hats hatz hbig hy ⊢
      by_cases hq : (1000000000000000000 : Int) ≤ ns[i]?.getD 0
      · have hq2 : ¬ (0 : Int) < zs[i]?.getD 0 := fun z => hbig ⟨hq, z⟩
        simp [setD_0, hnil, hlen, hpos, hi, hats, hatz, hp18, hq, hq2, m1, m2, hy, hpw, hz1, hL, hd, show Nat.log2 64 < 9000 by decide, show Nat.log2 8 < 9000 by decide]
      · simp [setD_0, hnil, hlen, hpos, hi, hats, hatz, hp18, hq, m1, m2, hy, hpw, hz1, hL, hd, show Nat.log2 64 < 9000 by decide, show Nat.log2 8 < 9000 by decide]
end Sx

namespace Sx
open PySem PySem.Spec PyProof.Rows L2 Mx
section
variable {ns : List Int}
theorem cL_tw {α : Type} {g : SG} {c : SB} {e : SE} {ρ0 : Sl} (enc : α → Dt) (b : Nat) (Q : α → Dt → Prop) : ∀ (xs : List α) (m : Nat) (ws : List Dt), Tn ns (m + b * xs.length) ws →
    (∀ x ∈ xs, ∀ m ws, Tn ns (m + b) ws → ∃ ρ1, g (enc x) ρ0 = some ρ1 ∧ ((∃ ws', c ρ1 (some ws) = .ok (false, some ws') ∧ Tn ns m ws') ∨ ∃ ws1 v ws', c ρ1 (some ws) = .ok (true, some ws1) ∧ e ρ1 (some ws1) = .ok (v, some ws') ∧ Q x v ∧ Tn ns m ws')) →
    ∃ (ys : List (α × Dt)) (ws' : List Dt), cL g c e ρ0 (xs.map enc) (some ws) = .ok (ys.map (·.2), some ws') ∧ (ys.map (·.1)).Sublist xs ∧ (∀ y ∈ ys, Q y.1 y.2) ∧ Tn ns m ws'
  | [], m, ws, t, _ => ⟨[], ws, rfl, .slnil, fun y hy => (by cases hy), t.mono (by omega)⟩
  | x :: xs, m, ws, t, h => by
    rw [List.length_cons, Nat.mul_succ, ← Nat.add_assoc] at t
    obtain ⟨ρ1, h1, h2⟩ := h x (by simp) _ ws t
    rw [List.map_cons]
    unfold cL
    simp only [h1]
    rcases h2 with ⟨ws', h3, t'⟩ | ⟨ws1, v, ws', h3, h4, hq, t'⟩
    · obtain ⟨ys, ws2, i1, i2, i3, i4⟩ := cL_tw enc b Q xs m ws' t' fun y hy => h y (List.mem_cons_of_mem _ hy)
      refine ⟨ys, ws2, ?_, i2.cons x, i3, i4⟩
      simp only [h3, nox_ok, Res.bind_ok, Bool.false_eq_true, if_false, i1]
    · obtain ⟨ys, ws2, i1, i2, i3, i4⟩ := cL_tw enc b Q xs m ws' t' fun y hy => h y (List.mem_cons_of_mem _ hy)
      refine ⟨(x, v) :: ys, ws2, ?_, ?_, ?_, i4⟩
      · simp only [h3, nox_ok, Res.bind_ok, if_true, h4, i1]; rfl
      · exact i2.cons_cons x
      · intro y hy
        rcases List.mem_cons.mp hy with z | z
        · rw [z]; exact hq
        · exact i3 y z
theorem cL_tw1 {α : Type} {g : SG} {e : SE} {ρ0 : Sl} (enc : α → Dt) (b : Nat) (Q : α → Dt → Prop) : ∀ (xs : List α) (m : Nat) (ws : List Dt), Tn ns (m + b * xs.length) ws →
    (∀ x ∈ xs, ∀ m ws, Tn ns (m + b) ws → ∃ ρ1 v ws', g (enc x) ρ0 = some ρ1 ∧ e ρ1 (some ws) = .ok (v, some ws') ∧ Q x v ∧ Tn ns m ws') →
    ∃ (ys : List (α × Dt)) (ws' : List Dt), cL g bYes e ρ0 (xs.map enc) (some ws) = .ok (ys.map (·.2), some ws') ∧ ys.map (·.1) = xs ∧ (∀ y ∈ ys, Q y.1 y.2) ∧ Tn ns m ws'
  | [], m, ws, t, _ => ⟨[], ws, rfl, rfl, fun y hy => (by cases hy), t.mono (by omega)⟩
  | x :: xs, m, ws, t, h => by
    rw [List.length_cons, Nat.mul_succ, ← Nat.add_assoc] at t
    obtain ⟨ρ1, v, ws', h1, h4, hq, t'⟩ := h x (by simp) _ ws t
    rw [List.map_cons]
    unfold cL
    simp only [h1]
    obtain ⟨ys, ws2, i1, i2, i3, i4⟩ := cL_tw1 enc b Q xs m ws' t' fun y hy => h y (List.mem_cons_of_mem _ hy)
    refine ⟨(x, v) :: ys, ws2, ?_, ?_, ?_, i4⟩
    · simp only [bYes_s, nox_ok, Res.bind_ok, if_true, h4, i1]; rfl
    · rw [List.map_cons, i2]
    · intro y hy
      rcases List.mem_cons.mp hy with z | z
      · rw [z]; exact hq
      · exact i3 y z
theorem fL_tw {α : Type} {g : SG} {body : SS} (enc : α → Dt) (b : Nat) (I : List α → Sl → Prop) (ys : List α)
    (h : ∀ pre x post ρ m ws, ys = pre ++ x :: post → I pre ρ → Tn ns (m + b) ws → ∃ ρ1 ρ2 ws', g (enc x) ρ = some ρ1 ∧ body ρ1 (some ws) = .nx ρ2 (some ws') ∧ I (pre ++ [x]) ρ2 ∧ Tn ns m ws') :
    ∀ (xs pre : List α) (ρ : Sl) (m : Nat) (ws : List Dt), ys = pre ++ xs → I pre ρ → Tn ns (m + b * xs.length) ws → ∃ ρ' ws', fL g body (xs.map enc) ρ (some ws) = .nx ρ' (some ws') ∧ I ys ρ' ∧ Tn ns m ws'
  | [], pre, ρ, m, ws, e, i, t => ⟨ρ, ws, rfl, by rw [e, List.append_nil]; exact i, t.mono (by omega)⟩
  | x :: xs, pre, ρ, m, ws, e, i, t => by
    rw [List.length_cons, Nat.mul_succ, ← Nat.add_assoc] at t
    obtain ⟨ρ1, ρ2, ws', h1, h2, h3, t'⟩ := h pre x xs ρ _ ws e i t
    obtain ⟨ρ', ws2, h4, h5, t2⟩ := fL_tw enc b I ys h xs (pre ++ [x]) ρ2 m ws' (by rw [e]; simp) h3 t'
    refine ⟨ρ', ws2, ?_, h5, t2⟩
    rw [List.map_cons, fL_cons, h1]
    simp only [h2, h4]
theorem pick_ok {cs : List Dt} {m : Nat} {ws : List Dt} {k : Bool} (hl : ns.length ≤ 63) (h0 : 0 < cs.length) (h1 : cs.length ≤ 1000) (t : Tn ns (m + 1) ws) :
    ∃ (v : Dt) (ws' : List Dt), F__law_pick [scD ns, if k then .list cs else .tuple cs] ws = .ok (v, ws') ∧ v ∈ cs ∧ Tn ns m ws' := by
  obtain ⟨d, ws', hd, hd2, t'⟩ := draw_ok (L := cs.length) hl h0 (Nat.lt_of_le_of_lt h1 (by decide)) t
  refine ⟨cs[d], ws', ?_, List.getElem_mem hd2, t'⟩
  have hat : atI cs (d : Int) = some cs[d] := by rw [atI_nat hd2, List.getElem?_eq_getElem hd2]
  unfold F__law_pick
  simp only [B__law_pick]
  cases k <;> simp [hd, hat]
theorem pick_nat {nums : List Nat} {m : Nat} {ws : List Dt} (hl : ns.length ≤ 63) (h0 : 0 < nums.length) (h1 : nums.length ≤ 1000) (t : Tn ns (m + 1) ws) :
    ∃ (v : Nat) (ws' : List Dt), F__law_pick [scD ns, .list (nums.map iD)] ws = .ok (iD v, ws') ∧ v ∈ nums ∧ Tn ns m ws' := by
  obtain ⟨v, ws', h, hv, t'⟩ := pick_ok (k := true) (cs := nums.map iD) hl (by simpa using h0) (by simpa using h1) t
  obtain ⟨n, hn, rfl⟩ := List.mem_map.mp hv
  exact ⟨n, ws', h, hn, t'⟩
theorem pairs_ok {n M m : Nat} {nums : List Nat} {ws : List Dt} (hl : ns.length ≤ 63) (hn1 : 1 ≤ n) (hn : n ≤ 5) (h0 : 0 < nums.length) (h1 : nums.length ≤ 1000) (hM : ∀ x ∈ nums, 1 ≤ x ∧ x ≤ M) (t : Tn ns (m + 11) ws) :
    ∃ (ps : List (Nat × Nat)) (ws' : List Dt), F__law_pairs [scD ns, iD n, .list (nums.map iD)] ws = .ok (prs ps, ws') ∧ ps ≠ [] ∧ POk n M ps ∧ Tn ns m ws' := by
  have t0 : Tn ns ((m + 6) + 1 * (List.range n).length) ws := t.mono (by simp; omega)
  obtain ⟨ys, ws1, c1, c2, c3, c4⟩ := cL_tw (ns := ns) (g := gN 5) (c := cC__law_pairs_1) (e := cE__law_pairs_1) (ρ0 := [some (.d (scD ns)), some .town, some (.d (iD n)), some (.d (.list (nums.map iD))), none, none]) iD 1 (fun x v => v = iD x) (List.range n) (m + 6) ws t0 (by
    intro x hx m ws t
    obtain ⟨d, ws', hd, hd2, t'⟩ := draw_ok (L := 2) hl (by decide) (by decide) t
    have hd : F__law_draw [scD ns, .int 2] ws = .ok (iD d, ws') := hd
    refine ⟨_, by simp; rfl, ?_⟩
    by_cases hz : d = 0
    · exact .inr ⟨ws', iD x, ws', by simp [cC__law_pairs_1, hd, hz], by simp [cE__law_pairs_1], rfl, t'⟩
    · exact .inl ⟨ws', by simp [cC__law_pairs_1, hd, show ¬ d = 0 from hz], t'⟩)
  have hys : ys.map (·.2) = (ys.map (·.1)).map iD := by
    rw [List.map_map]
    exact List.map_congr_left fun y hy => c3 y hy
  rw [hys] at c1
  generalize ys.map (·.1) = sub at c1 c2
  have hsub : ∃ (sub2 : List Nat) (ws2 : List Dt), sub2 ≠ [] ∧ sub2.length ≤ 5 ∧ (∀ x ∈ sub2, x < n) ∧ sub2.Pairwise (· < ·) ∧ Tn ns (m + 5) ws2 ∧
      sIf (bOf (eBin eqD (eVar 4) (eFrz (lLst aNil)))) (sAsg 4 (eFrz (lLst (aCons (eCallT 1 F__law_draw (eVar 0) 1 (aCons (eVar 2) aNil)) aNil)))) sPass [some (.d (scD ns)), some .town, some (.d (iD n)), some (.d (.list (nums.map iD))), some (.d (.list (sub.map iD))), none] (some ws1) = .nx [some (.d (scD ns)), some .town, some (.d (iD n)), some (.d (.list (nums.map iD))), some (.d (.list (sub2.map iD))), none] (some ws2) := by
    have hnil := eqD_nil (ds := sub.map iD) (k := 1) (flts_map fun _ _ => rfl) (by decide)
    by_cases hs : sub = []
    · subst hs
      obtain ⟨d, ws', hd, hd2, t'⟩ := draw_ok (L := n) (m := m + 5) hl (by omega) (by
        have : (5 : Nat) < 2 ^ 64 := by decide
        omega) (c4.mono (by omega))
      refine ⟨[d], ws', by simp, by simp, by simpa using hd2, by simp, t', ?_⟩
      simp at hnil
      simp [hnil, hd]
    · refine ⟨sub, ws1, hs, ?_, fun x hx => List.mem_range.mp (c2.subset hx), List.Pairwise.sublist c2 List.pairwise_lt_range, c4.mono (by omega), ?_⟩
      · have := c2.length_le
        rw [List.length_range] at this
        omega
      · have : (sub.map iD).isEmpty = false := by cases sub with
          | nil => exact absurd rfl hs
          | cons _ _ => rfl
        rw [this] at hnil
        rw [sIf_s, bOf_s, eBin_s]
        simp only [eVar_s, eFrz_s, lLst_s, aNil_s]
        simp [hnil]
  obtain ⟨sub2, ws2, s1, s2, s3, s4, s5, s6⟩ := hsub
  obtain ⟨zs, ws3, d1, d2, d3, d4⟩ := cL_tw1 (ns := ns) (g := gN 5) (e := cE__law_pairs_2) (ρ0 := [some (.d (scD ns)), some .town, some (.d (iD n)), some (.d (.list (nums.map iD))), some (.d (.list (sub2.map iD))), none]) iD 1 (fun x v => ∃ p ∈ nums, v = pr (x, p)) sub2 m ws2 (s5.mono (by omega)) (by
    intro x hx m ws t
    obtain ⟨v, ws', hv, hv2, t'⟩ := pick_nat hl h0 h1 t
    refine ⟨_, pr (x, v), ws', by simp; rfl, ?_, ⟨v, hv2, rfl⟩, t'⟩
    simp [cE__law_pairs_2, hv]
    rfl)
  have hex : ∃ ps : List (Nat × Nat), zs.map (·.2) = ps.map pr ∧ ps.map (·.1) = sub2 ∧ ∀ p ∈ ps, p.2 ∈ nums := by
    subst d2
    clear d1 s6 s4 s3 s2 s1
    induction zs with
    | nil => exact ⟨[], rfl, rfl, fun p hp => by cases hp⟩
    | cons z zs ih =>
      obtain ⟨ps, q1, q2, q3⟩ := ih fun y hy => d3 y (List.mem_cons_of_mem _ hy)
      obtain ⟨p, hp, e⟩ := d3 z (by simp)
      refine ⟨(z.1, p) :: ps, by rw [List.map_cons, List.map_cons, q1, e], by rw [List.map_cons, List.map_cons, q2], fun r hr => ?_⟩
      rcases List.mem_cons.mp hr with y | y
      · rw [y]; exact hp
      · exact q3 r y
  obtain ⟨ps, q1, q2, q3⟩ := hex
  refine ⟨ps, ws3, ?_, ?_, ⟨fun p hp => ?_, ?_⟩, d4⟩
  · rw [q1] at d1
    unfold F__law_pairs
    simp only [B__law_pairs]
    have e1 : sAsg 4 (eFrz (lComp (iRng (aCons (eVar 2) aNil)) (gN 5) cC__law_pairs_1 cE__law_pairs_1 [5])) [some (.d (scD ns)), some .town, some (.d (iD n)), some (.d (.list (nums.map iD))), none, none] (some ws) = .nx [some (.d (scD ns)), some .town, some (.d (iD n)), some (.d (.list (nums.map iD))), some (.d (.list (sub.map iD))), none] (some ws1) := by
      have hr := rngOf_n (n := n) (by omega)
      simp [hr, wipeOk, show n ≤ 100000 by omega, c1]
    have e0 : startT 6 [scD ns, iD n, .list (nums.map iD)] = [some (.d (scD ns)), some .town, some (.d (iD n)), some (.d (.list (nums.map iD))), none, none] := rfl
    rw [runT_s, e0, sSeq_s, e1]
    simp only
    rw [sSeq_s, s6]
    simp [wipeOk, show sub2.length ≤ 100000 by omega, d1]
    rfl
  · intro z
    subst z
    exact s1 q2.symm
  · have hm := q3 p hp
    exact ⟨s3 p.1 (by rw [← q2]; exact List.mem_map.mpr ⟨p, hp, rfl⟩), hM p.2 hm⟩
  · rw [← q2, List.pairwise_map] at s4
    exact s4
end
end Sx

namespace Sx
open PySem PySem.Spec PyProof.Rows L2 Mx
section
variable {ns : List Int}
theorem rung_loop {n kk m : Nat} {fz : Int} {w : List (Nat × Nat)} {ws : List Dt} (hl : ns.length ≤ 63) (hw : ∀ p ∈ w, 1 ≤ p.2 ∧ p.2 ≤ 20) (hlen : w.length ≤ 5) (t : Tn ns (m + 2 * w.length) ws) :
    ∃ (cs : List (Nat × Nat)) (a b : Option SV) (ws' : List Dt), fL (gTu 2 (gsCons (gN 7) (gsCons (gN 8) gsNil))) lB__law_rung_1 (w.map pr) [some (.d (scD ns)), some .town, some (.d (iD n)), some (.d (iD kk)), some (.d (prs w)), some (.d (.int fz)), some (.own []), none, none] (some ws) = .nx [some (.d (scD ns)), some .town, some (.d (iD n)), some (.d (iD kk)), some (.d (prs w)), some (.d (.int fz)), some (.own (cs.map pr)), a, b] (some ws') ∧
      (cs.map (·.1)).Sublist (w.map (·.1)) ∧ (∀ p ∈ cs, 1 ≤ p.2 ∧ p.2 ≤ 999 ∧ (p.1 : Int) ≠ fz) ∧ Tn ns m ws' := by
  have key := fL_tw (ns := ns) (g := gTu 2 (gsCons (gN 7) (gsCons (gN 8) gsNil))) (body := lB__law_rung_1) pr 2
    (fun pre ρ => ∃ cs a b, ρ = [some (.d (scD ns)), some .town, some (.d (iD n)), some (.d (iD kk)), some (.d (prs w)), some (.d (.int fz)), some (.own (cs.map pr)), a, b] ∧ (cs.map (·.1)).Sublist (pre.map (·.1)) ∧ (∀ p ∈ cs, 1 ≤ p.2 ∧ p.2 ≤ 999 ∧ (p.1 : Int) ≠ fz)) w (by
      rintro pre x post ρ m ws e ⟨cs, a, b, rfl, hsub, hcs⟩ t
      have hx : x ∈ w := by rw [e]; simp
      obtain ⟨hx1, hx2⟩ := hw x hx
      have hcl : cs.length ≤ 5 := by
        have h1 := hsub.length_le
        rw [List.length_map, List.length_map] at h1
        have h2 : pre.length ≤ w.length := by rw [e, List.length_append]; omega
        omega
      have hsub2 : (cs.map (·.1)).Sublist ((pre ++ [x]).map (·.1)) := by
        rw [List.map_append]
        exact hsub.trans (List.sublist_append_left _ _)
      have hg : gTu 2 (gsCons (gN 7) (gsCons (gN 8) gsNil)) (pr x) [some (.d (scD ns)), some .town, some (.d (iD n)), some (.d (iD kk)), some (.d (prs w)), some (.d (.int fz)), some (.own (cs.map pr)), a, b] = some [some (.d (scD ns)), some .town, some (.d (iD n)), some (.d (iD kk)), some (.d (prs w)), some (.d (.int fz)), some (.own (cs.map pr)), some (.d (iD x.1)), some (.d (iD x.2))] := by simp
      by_cases hf : (x.1 : Int) = fz
      · refine ⟨_, [some (.d (scD ns)), some .town, some (.d (iD n)), some (.d (iD kk)), some (.d (prs w)), some (.d (.int fz)), some (.own (cs.map pr)), some (.d (iD x.1)), some (.d (iD x.2))], ws, hg, ?_, ⟨cs, _, _, rfl, hsub2, hcs⟩, t.mono (by omega)⟩
        simp [lB__law_rung_1, hf]
      · obtain ⟨d, ws1, hd, hd2, t1⟩ := draw_ok (L := 4) (m := m + 1) hl (by decide) (by decide) t
        have hd : F__law_draw [scD ns, .int 4] ws = .ok (iD d, ws1) := hd
        by_cases hz : d = 0
        · refine ⟨_, [some (.d (scD ns)), some .town, some (.d (iD n)), some (.d (iD kk)), some (.d (prs w)), some (.d (.int fz)), some (.own (cs.map pr)), some (.d (iD x.1)), some (.d (iD x.2))], ws1, hg, ?_, ⟨cs, _, _, rfl, hsub2, hcs⟩, t1.mono (by omega)⟩
          simp [lB__law_rung_1, hf, hd, hz]
        · obtain ⟨v, ws2, hv, hv2, t2⟩ := pick_nat (nums := [1, 2, 3, 5, 10, 20, 5 * x.2]) hl (by simp) (by simp) t1
          have hm : mulOk 5 (x.2 : Int) = true := mulOk_of (j := 3) (k := 5) (by decide) (by rw [Int.natAbs_natCast]; omega) (by decide)
          have hvv : 1 ≤ v ∧ v ≤ 999 := by
            simp at hv2
            omega
          have hv : F__law_pick [scD ns, .list [.int 1, .int 2, .int 3, .int 5, .int 10, .int 20, .int (5 * (x.2 : Int))]] ws1 = .ok (iD v, ws2) := by
            have e : ([1, 2, 3, 5, 10, 20, 5 * x.2] : List Nat).map iD = [.int 1, .int 2, .int 3, .int 5, .int 10, .int 20, .int (5 * (x.2 : Int))] := by simp [iD]
            rw [e] at hv
            exact hv
          refine ⟨_, [some (.d (scD ns)), some .town, some (.d (iD n)), some (.d (iD kk)), some (.d (prs w)), some (.d (.int fz)), some (.own ((cs ++ [(x.1, v)]).map pr)), some (.d (iD x.1)), some (.d (iD x.2))], ws2, hg, ?_, ⟨cs ++ [(x.1, v)], _, _, rfl, ?_, ?_⟩, t2⟩
          · have hlt : (cs.map pr).length < 100000 := by rw [List.length_map]; omega
            have hdp : (0 : Int) < (d : Int) := by omega
            simp only [lB__law_rung_1]
            simp [hf, hd, hdp, hm, hv, show 0 < d by omega, show cs.length < 100000 by omega]
            rfl
          · rw [List.map_append, List.map_append]
            exact hsub.append (List.Sublist.refl _)
          · intro p hp
            rcases List.mem_append.mp hp with z | z
            · exact hcs p z
            · rw [List.mem_singleton.mp z]
              exact ⟨hvv.1, hvv.2, hf⟩) w [] [some (.d (scD ns)), some .town, some (.d (iD n)), some (.d (iD kk)), some (.d (prs w)), some (.d (.int fz)), some (.own []), none, none] m ws rfl ⟨[], none, none, rfl, .slnil, fun p hp => by cases hp⟩ t
  obtain ⟨ρ', ws', h1, ⟨cs, a, b, rfl, h2, h3⟩, t'⟩ := key
  exact ⟨cs, a, b, ws', h1, h2, h3, t'⟩
theorem rung_draw {n m kk : Nat} {ws : List Dt} (hl : ns.length ≤ 63) (hn1 : 1 ≤ n) (hn : n ≤ 5) (hk : kk ≤ 2) (t : Tn ns (m + 22) ws) :
    ∃ (r : Rung) (ws' : List Dt), F__law_rung [scD ns, iD n, iD kk] ws = .ok (rd r, ws') ∧ r.Ok n ∧ (kk = 2 → r.endless = true) ∧ Tn ns m ws' := by
  by_cases h0 : kk = 0
  · subst h0
    obtain ⟨ps, ws', h1, h2, h3, t'⟩ := pairs_ok (M := 999) (nums := [1, 2, 3, 5, 10, 20, 100, 999]) (m := m) hl hn1 hn (by decide) (by decide) (by decide) (t.mono (by omega))
    refine ⟨.fixed ps, ws', ?_, ⟨h2, h3⟩, fun z => (by cases z), t'⟩
    have h1 : F__law_pairs [scD ns, .int (n : Int), .list [.int 1, .int 2, .int 3, .int 5, .int 10, .int 20, .int 100, .int 999]] ws = .ok (prs ps, ws') := h1
    unfold F__law_rung
    simp only [B__law_rung]
    simp [h1, rd]
  · obtain ⟨w, ws1, h1, h2, h3, t1⟩ := pairs_ok (M := 20) (nums := [1, 1, 2, 3, 4, 20]) (m := m + 11) hl hn1 hn (by decide) (by decide) (by decide) (t.mono (by omega))
    have h1 : F__law_pairs [scD ns, .int (n : Int), .list [.int 1, .int 1, .int 2, .int 3, .int 4, .int 20]] ws = .ok (prs w, ws1) := h1
    have hlw := pok_len h3
    have hfree : ∃ (fz : Int) (ws2 : List Dt), eIf (bOf (eBin eqD (eVar 3) (eC (.int 2)))) (eBin ixD (eCallT 1 F__law_pick (eVar 0) 1 (aCons (eVar 4) aNil)) (eC (.int 0))) (eUn negD (eC (.int 1))) [some (.d (scD ns)), some .town, some (.d (iD n)), some (.d (iD kk)), some (.d (prs w)), none, none, none, none] (some ws1) = .ok (.int fz, some ws2) ∧ (kk = 2 → ∃ p ∈ w, fz = (p.1 : Int)) ∧ Tn ns (m + 10) ws2 := by
      by_cases hk2 : kk = 2
      · subst hk2
        obtain ⟨v, ws2, hv, hv2, t2⟩ := pick_ok (k := false) (cs := w.map pr) (m := m + 10) hl (by rw [List.length_map]; exact List.length_pos_iff.mpr h2) (by rw [List.length_map]; omega) t1
        obtain ⟨p, hp, rfl⟩ := List.mem_map.mp hv2
        have hv : F__law_pick [scD ns, prs w] ws1 = .ok (pr p, ws2) := hv
        exact ⟨(p.1 : Int), ws2, by simp [hv], fun _ => ⟨p, hp, rfl⟩, t2⟩
      · exact ⟨-1, ws1, by simp [show ¬ (kk : Int) = 2 by omega], fun z => absurd z hk2, t1.mono (by omega)⟩
    obtain ⟨fz, ws2, f1, f2, t2⟩ := hfree
    obtain ⟨cs, a, b, ws3, l1, l2, l3, t3⟩ := rung_loop (n := n) (kk := kk) (m := m) (fz := fz) hl (fun p hp => (h3.el p hp).2) (by omega) (t2.mono (by omega))
    have hkey : ∀ p ∈ cs, ∃ q ∈ w, q.1 = p.1 := fun p hp => by
      have := l2.subset (List.mem_map.mpr ⟨p, hp, rfl⟩)
      obtain ⟨q, hq, e⟩ := List.mem_map.mp this
      exact ⟨q, hq, e⟩
    have hpk : POk n 999 cs := ⟨fun p hp => by
      obtain ⟨q, hq, e⟩ := hkey p hp
      exact ⟨by rw [← e]; exact (h3.el q hq).1, (l3 p hp).1, (l3 p hp).2.1⟩, by
      have := List.Pairwise.sublist l2 (List.pairwise_map.mpr h3.inc)
      exact List.pairwise_map.mp this⟩
    have hok : (Rung.shares w cs).Ok n := ⟨h2, h3, hpk, hkey⟩
    refine ⟨.shares w cs, ws3, ?_, hok, fun z => ?_, t3⟩
    · unfold F__law_rung
      simp only [B__law_rung]
      have e0 : startT 9 [scD ns, iD n, iD kk] = [some (.d (scD ns)), some .town, some (.d (iD n)), some (.d (iD kk)), none, none, none, none, none] := rfl
      have hkz : ¬ (kk : Int) = 0 := by omega
      rw [runT_s, e0]
      simp only [sSeq_s]
      rw [show sIf (bOf (eBin eqD (eVar 3) (eC (.int 0)))) (sRet (eTup (aCons (eC (.str "fixed")) (aCons (eCallT 2 F__law_pairs (eVar 0) 1 (aCons (eVar 2) (aCons (eFrz (lLst (aCons (eC (.int 1)) (aCons (eC (.int 2)) (aCons (eC (.int 3)) (aCons (eC (.int 5)) (aCons (eC (.int 10)) (aCons (eC (.int 20)) (aCons (eC (.int 100)) (aCons (eC (.int 999)) aNil)))))))))) aNil))) aNil)))) sPass [some (.d (scD ns)), some .town, some (.d (iD n)), some (.d (iD kk)), none, none, none, none, none] (some ws) = .nx [some (.d (scD ns)), some .town, some (.d (iD n)), some (.d (iD kk)), none, none, none, none, none] (some ws) by simp [h0]]
      simp only
      rw [show sAsg 4 (eCallT 2 F__law_pairs (eVar 0) 1 (aCons (eVar 2) (aCons (eFrz (lLst (aCons (eC (.int 1)) (aCons (eC (.int 1)) (aCons (eC (.int 2)) (aCons (eC (.int 3)) (aCons (eC (.int 4)) (aCons (eC (.int 20)) aNil)))))))) aNil))) [some (.d (scD ns)), some .town, some (.d (iD n)), some (.d (iD kk)), none, none, none, none, none] (some ws) = .nx [some (.d (scD ns)), some .town, some (.d (iD n)), some (.d (iD kk)), some (.d (prs w)), none, none, none, none] (some ws1) by simp [h1]]
      simp only
      rw [sAsg_s, f1]
      simp [l1, rd]
      rfl
    · obtain ⟨p, hp, e⟩ := f2 z
      refine decide_eq_true ((endless_iff hok).mpr ⟨p, hp, lk_none.mpr fun q hq e2 => (l3 q hq).2.2 ?_⟩)
      rw [e]; omega
theorem ladder_ok {most m : Nat} {ws : List Dt} (hl : ns.length ≤ 63) (h1 : 1 ≤ most) (h5 : most ≤ 5) (t : Tn ns (m + 100) ws) :
    ∃ (l : Lad) (ws' : List Dt), F__law_ladder [scD ns, iD most] ws = .ok (ld l, ws') ∧ l.Ok ∧ l.n ≤ most ∧ Tn ns m ws' := by
  obtain ⟨d, ws1, hd, hd2, t1⟩ := draw_ok (L := most) (m := m + 99) hl (by omega) (Nat.lt_of_le_of_lt h5 (by decide)) t
  obtain ⟨e, ws2, he, he2, t2⟩ := draw_ok (L := 4) (m := m + 98) hl (by decide) (by decide) t1
  have he : F__law_draw [scD ns, .int 4] ws1 = .ok (iD e, ws2) := he
  obtain ⟨n, hn⟩ : ∃ n, n = 1 + d := ⟨_, rfl⟩
  have hnD : (1 : Int) + (d : Int) = (n : Int) := by omega
  obtain ⟨ys, ws3, c1, c2, c3, c4⟩ := cL_tw1 (ns := ns) (g := gN 5) (e := cE__law_ladder_1) (ρ0 := [some (.d (scD ns)), some .town, some (.d (iD most)), some (.d (iD n)), none, none]) iD 23 (fun x v => ∃ r : Rung, v = rd r ∧ r.Ok n) (List.range e) (m + 22) ws2 (t2.mono (by simp; omega)) (by
    intro x hx m ws t
    obtain ⟨k, w1, q1, q2, t3⟩ := draw_ok (L := 2) (m := m + 22) hl (by decide) (by decide) t
    have q1 : F__law_draw [scD ns, .int 2] ws = .ok (iD k, w1) := q1
    obtain ⟨r, w2, r1, r2, _, t4⟩ := rung_draw (n := n) (kk := k) hl (by omega) (by omega) (by omega) t3
    refine ⟨_, rd r, w2, by simp; rfl, ?_, ⟨r, rfl, r2⟩, t4⟩
    simp [cE__law_ladder_1, q1, r1])
  obtain ⟨r, ws4, r1, r2, r3, t4⟩ := rung_draw (n := n) (kk := 2) (m := m) hl (by omega) (by omega) (by omega) c4
  have r1 : F__law_rung [scD ns, .int (n : Int), .int 2] ws3 = .ok (rd r, ws4) := r1
  have hex : ∃ rs : List Rung, ys.map (·.2) = rs.map rd ∧ rs.length = ys.length ∧ ∀ q ∈ rs, q.Ok n := by
    clear c1 c2
    induction ys with
    | nil => exact ⟨[], rfl, rfl, fun p hp => by cases hp⟩
    | cons z zs ih =>
      obtain ⟨rs, q1, q2, q3⟩ := ih fun y hy => c3 y (List.mem_cons_of_mem _ hy)
      obtain ⟨q, e, hq⟩ := c3 z (by simp)
      refine ⟨q :: rs, by rw [List.map_cons, List.map_cons, q1, e], by rw [List.length_cons, List.length_cons, q2], fun r hr => ?_⟩
      rcases List.mem_cons.mp hr with y | y
      · rw [y]; exact hq
      · exact q3 r y
  obtain ⟨rs, q1, q2, q3⟩ := hex
  have hlen : rs.length ≤ 3 := by
    have := congrArg List.length c2
    rw [List.length_map, List.length_range] at this
    omega
  rw [q1] at c1
  refine ⟨⟨n, rs ++ [r]⟩, ws4, ?_, ⟨by show 1 ≤ n; omega, by show n ≤ 5; omega, by simp, by simp; omega, fun q hq => ?_, r, by simp, r3 rfl⟩, by show n ≤ most; omega, t4⟩
  · have hadd : addD (.tuple (rs.map rd)) (.tuple [rd r]) = some (.tuple ((rs ++ [r]).map rd)) := by
      show (if (rs.map rd).length + [rd r].length ≤ 100000 then some (PyData.tuple (rs.map rd ++ [rd r])) else none) = _
      rw [if_pos (by simp; omega), List.map_append]; rfl
    unfold F__law_ladder
    simp only [B__law_ladder]
    have hr := rngOf_n (n := e) (by omega)
    simp [hd, hnD, he, hr, wipeOk, show e ≤ 100000 by omega, c1, r1, hadd, ld]
  · rcases List.mem_append.mp hq with z | z
    · exact q3 q z
    · rw [List.mem_singleton.mp z]; exact r2
theorem amount_ok {m : Nat} {ws : List Dt} (hl : ns.length ≤ 63) (t : Tn ns (m + 3) ws) : ∃ (q : Rat) (ws' : List Dt), F__law_amount [scD ns] ws = .ok (fr q, ws') ∧ Amt q ∧ Tn ns m ws' := by
  obtain ⟨a, ws1, ha, ha2, t1⟩ := pick_nat (nums := [10, 50, 300, 3000, 1000000]) (m := m + 2) hl (by decide) (by decide) t
  obtain ⟨b, ws2, hb, hb2, t2⟩ := pick_nat (nums := [1, 1, 2, 3, 7, 1000]) (m := m + 1) hl (by decide) (by decide) t1
  have ha : F__law_pick [scD ns, .list [.int 10, .int 50, .int 300, .int 3000, .int 1000000]] ws = .ok (iD a, ws1) := ha
  have hb : F__law_pick [scD ns, .list [.int 1, .int 1, .int 2, .int 3, .int 7, .int 1000]] ws1 = .ok (iD b, ws2) := hb
  have hab : 1 ≤ a ∧ a ≤ 1000000 := by simp at ha2; omega
  have hbb : 1 ≤ b ∧ b ≤ 1000 := by simp at hb2; omega
  have hprod : a * b ≤ 1000000 * 1000 := Nat.mul_le_mul hab.2 hbb.2
  obtain ⟨d, ws3, hd, hd2, t3⟩ := draw_ok (L := a * b + 1) (m := m) hl (by omega) (Nat.lt_of_le_of_lt (Nat.succ_le_succ hprod) (by decide)) t2
  have hm : mulOk (a : Int) (b : Int) = true := mulOk_of (j := 20) (k := 10) (by rw [Int.natAbs_natCast]; exact Nat.lt_of_le_of_lt hab.2 (by decide)) (by rw [Int.natAbs_natCast]; exact Nat.lt_of_le_of_lt hbb.2 (by decide)) (by decide)
  have hd : F__law_draw [scD ns, .int ((a : Int) * (b : Int) + 1)] ws2 = .ok (iD d, ws3) := by
    have e : (((a * b + 1 : Nat)) : Int) = (a : Int) * (b : Int) + 1 := by simp
    rw [e] at hd
    exact hd
  have hf := lfrac_ok (a := (d : Int)) (b := b) (by omega) (Nat.lt_of_le_of_lt hbb.2 (Nat.lt_of_lt_of_le (show 1000 < 2 ^ 10 by decide) (Nat.pow_le_pow_right (by decide) (by decide))))
  refine ⟨mkRat d b, ws3, ?_, ⟨?_, ?_, ?_⟩, t3⟩
  · unfold F__law_amount
    simp only [B__law_amount]
    simp [ha, hb, hm, hd, hf]
  · rw [Rat.mkRat_eq_div, Rat.intCast_natCast, Rat.div_def]
    exact Rat.mul_nonneg Rat.natCast_nonneg (Rat.le_of_lt (Rat.inv_pos.mpr (Rat.natCast_pos.mpr (by omega))))
  · rw [Rat.mkRat_eq_div, Rat.intCast_natCast]
    have hbp : (0 : Rat) < (b : Rat) := Rat.natCast_pos.mpr (by omega)
    rw [← Rat.not_lt, Rat.lt_div_iff hbp, Rat.not_lt]
    have : (d : Rat) ≤ ((1000000 * b : Nat) : Rat) := Rat.natCast_le_natCast.mpr (by
      have : a * b ≤ 1000000 * b := Nat.mul_le_mul_right _ hab.2
      omega)
    rw [Rat.natCast_mul] at this
    exact this
  · rw [Rat.den_mkRat]
    split
    · decide
    · exact Nat.le_trans (Nat.div_le_self _ _) hbb.2
end
end Sx

namespace Sx
open PySem PySem.Spec PyProof.Rows L2 Mx
/-! ### the law's rungs -/
def kvI (C : List (Nat × Nat)) : List (Int × Dt) := C.map fun p => ((p.1 : Int), .int (p.2 : Int))
theorem valD_kvI (h : Nat) : ∀ C : List (Nat × Nat), valD (kvI C) (h : Int) = (lk C h).map fun c => PyData.int (c : Int)
  | [] => rfl
  | (k, v) :: L => by
    have ih := valD_kvI h L
    unfold kvI valD at ih ⊢
    rw [List.map_cons]
    unfold lk
    by_cases hk : k = h
    · subst hk; simp
    · rw [if_neg hk, ← ih, List.find?_cons_of_neg (by simp; omega)]
theorem mergeD_disI : ∀ (L : List (Nat × Nat)) (acc : List (Nat × Nat)), Dis (acc ++ L) → mergeD (kvI acc) (kvI L) = kvI (acc ++ L)
  | [], acc, _ => by rw [List.append_nil]; rfl
  | p :: L, acc, d => by
    have e : mergeD (kvI acc) (kvI (p :: L)) = mergeD (putD (kvI acc) (p.1 : Int) (.int (p.2 : Int))) (kvI L) := rfl
    rw [e, putD_new]
    · have : kvI acc ++ [((p.1 : Int), .int (p.2 : Int))] = kvI (acc ++ [p]) := by unfold kvI; rw [List.map_append]; rfl
      rw [this, mergeD_disI L (acc ++ [p]) (by rw [List.append_assoc]; exact d), List.append_assoc]
      rfl
    · intro q hq
      obtain ⟨r, hr, rfl⟩ := List.mem_map.mp hq
      have := (List.pairwise_append.mp d).2.2 r hr p (by simp)
      simp only
      omega
theorem pairsD_pr : ∀ xs : List (Nat × Nat), pairsD (xs.map pr) = some (kvI xs)
  | [] => rfl
  | x :: xs => by
    rw [List.map_cons]
    show (pairsD (xs.map pr)).map _ = _
    rw [pairsD_pr xs]
    rfl
theorem dictOf_pr {C : List (Nat × Nat)} (d : Dis C) : dictOf (.list (C.map pr)) = some (kvI C) := by
  show (pairsD _).map (mergeD []) = _
  rw [pairsD_pr]
  have := mergeD_disI C [] d
  rw [List.nil_append] at this
  exact congrArg some this
theorem mul_den (v : Rat) : v * (v.den : Rat) = (v.num : Rat) := by
  have hd : (v.den : Rat) ≠ 0 := by
    have : (0 : Rat) < (v.den : Rat) := Rat.natCast_pos.mpr (Nat.pos_of_ne_zero v.den_nz)
    grind
  have e : v = (v.num : Rat) / (v.den : Rat) := by
    conv => lhs; rw [← Rat.mkRat_self v]
    rw [Rat.mkRat_eq_div]
  conv => lhs; lhs; rw [e]
  exact Rat.div_mul_cancel hd
theorem lbelow_raw {c w : Nat} {v : Rat} (hc : c < 2 ^ 20) (hw : w < 2 ^ 20) (hv : Bd 4000 v) : F__law_below [.tuple [.int (c : Int), .int (w : Int)], fr v] = .ok (.bool (decide ((c : Rat) < v * (w : Rat)))) := by
  have m1 : mulOk (c : Int) (v.den : Int) = true := mulOk_of (j := 20) (k := 4000) (natAbs_lt hc) (natAbs_lt hv.2) (by decide)
  have m2 : mulOk v.num (w : Int) = true := mulOk_of (j := 4000) (k := 20) hv.1 (natAbs_lt hw) (by decide)
  have key : ((c : Int) * (v.den : Int) < v.num * (w : Int)) ↔ (c : Rat) < v * (w : Rat) := by
    have hd : (0 : Rat) < (v.den : Rat) := Rat.natCast_pos.mpr (Nat.pos_of_ne_zero v.den_nz)
    rw [← Rat.mul_lt_mul_right (c := (v.den : Rat)) hd, ← Rat.intCast_lt_intCast, Rat.intCast_mul, Rat.intCast_mul, Rat.intCast_natCast, Rat.intCast_natCast, Rat.intCast_natCast, ← mul_den v]
    rw [show v * (w : Rat) * (v.den : Rat) = v * (v.den : Rat) * (w : Rat) by grind]
  unfold F__law_below
  simp only [B__law_below]
  have e : fr v = .tuple [.int v.num, .int v.den] := rfl
  rw [e]
  simp [m1, m2]
  by_cases h : (c : Rat) < v * (w : Rat)
  · simp [h, key.mpr h]
  · simp [h, show ¬ ((c : Int) * (v.den : Int) < v.num * (w : Int)) from fun z => h (key.mp z)]
theorem nat_fr (n : Nat) : (PyData.tuple [.int (n : Int), .int 1] : Dt) = fr (n : Rat) := rfl
theorem fixed_law {n k : Nat} {s : List (Nat × Nat)} {x : Rat} (hn : n ≤ 5) (h0 : s ≠ []) (hs : POk n 999 s) (hx : 0 ≤ x) (hxb : Bd k x) (hk : k ≤ 1000) :
    F__law_rung_pays [.int (n : Int), rd (.fixed s), fr x] = .ok (.tuple [.list (rtL n (ev (pcs (.fixed s)) x)), fr (x - sn n (ev (pcs (.fixed s)) x))]) := by
  have hok : (Rung.fixed s).Ok n := ⟨h0, hs⟩
  have hw : ∀ p ∈ s, 0 < p.2 := fun p hp => (hs.el p hp).2.1
  have hWn := wsum_pos hw h0
  have hWr : (0 : Rat) < (wsum s : Rat) := Rat.natCast_pos.mpr hWn
  have hlen := pok_len hs
  have hWle : wsum s ≤ 4995 := by
    have a := wsum_le fun p hp => (hs.el p hp).2.2
    have : 999 * s.length ≤ 999 * 5 := Nat.mul_le_mul_left _ (by omega)
    omega
  have bW : Bd 13 ((wsum s : Nat) : Rat) := Bd.nat (Nat.lt_of_le_of_lt hWle (by decide)) (by decide)
  obtain ⟨part, hpart⟩ : ∃ part, part = if x < (wsum s : Rat) then x / (wsum s : Rat) else 1 := ⟨_, rfl⟩
  have bpart : Bd (k + 13) part := by
    rw [hpart]
    split
    · exact hxb.div bW (by decide)
    · exact (show Bd 1 (1 : Rat) from ⟨by decide, by decide⟩).mono (by omega)
  -- what the law pays
  have hpay : ∀ h, ev (pcs (.fixed s)) x h = (match lk s h with | none => 0 | some w => (w : Rat) * part) := fun h => by
    show ev [(some (wsum s : Rat), rt s (wsum s : Rat))] x h = _
    have hd : ∀ w : Nat, (w : Rat) / (wsum s : Rat) * (wsum s : Rat) = (w : Rat) := fun w => Rat.div_mul_cancel (by grind)
    by_cases hxl : x ≤ (wsum s : Rat)
    · rw [ev_le hxl]
      unfold rt
      cases lk s h with
      | none => simp only; grind
      | some w =>
        simp only
        rw [hpart]
        by_cases hlt : x < (wsum s : Rat)
        · rw [if_pos hlt, Rat.div_def, Rat.div_def]; grind
        · rw [if_neg hlt, show x = (wsum s : Rat) by grind, hd]; grind
    · rw [ev_gt hxl]
      show rt s (wsum s : Rat) h * (wsum s : Rat) + 0 = _
      unfold rt
      cases lk s h with
      | none => simp only; grind
      | some w => simp only; rw [hd, hpart, if_neg (by grind)]; grind
  have hsum : sn n (ev (pcs (.fixed s)) x) = (wsum s : Rat) * part := by
    rw [sn_sm hs.dis (fun p hp => (hs.el p hp).1) fun h e => by rw [hpay h, e]]
    rw [← sm_w hs.dis part (B := s) fun _ h => h]
    refine sm_congr fun p hp => ?_
    rw [hpay, wv_mem hs.dis hp, mem_lk hs.dis hp]
  rw [hsum]
  have hc1 : ∀ x0 x1 x2 x3 : Option SV, cL (gTu 2 (gsCons (gN 7) (gsCons (gN 11) gsNil))) bYes cE__law_rung_pays_1 [x0, x1, x2, x3, none, none, none, none, none, none, none, none, none, none, none, none, none, none] (s.map pr) none = .ok (s.map (fun p => PyData.int (p.2 : Int)), none) := fun x0 x1 x2 x3 => by
    refine cL_map pr _ _ fun p hp => ⟨_, by simp; rfl, ?_⟩
    simp [cE__law_rung_pays_1]
  have hb := lbelow_ok (a := x) (b := ((wsum s : Nat) : Rat)) (hxb.mono (by omega)) (bW.mono (by decide))
  have ho := lover_ok (a := x) (b := ((wsum s : Nat) : Rat)) (hxb.mono (by omega)) (bW.mono (by decide)) hWr
  have hpe : ∀ ρ : Sl, ∀ j : Nat, ρ[2]? = some (some (.d (fr x))) → ρ[9]? = some (some (.d (.tuple [.int (wsum s : Int), .int 1]))) → eIf (bOf (eCall 2 F__law_below (aCons (eVar 2) (aCons (eVar 9) aNil)))) (eCall 2 F__law_over (aCons (eVar 2) (aCons (eVar 9) aNil))) (eTup (aCons (eC (.int 1)) (aCons (eC (.int 1)) aNil))) ρ none = .ok (fr part, none) := fun ρ _ e2 e9 => by
    rw [nat_fr] at e9
    simp only [eIf_s, bOf_s, eCall_s, aCons_s, eVar_s, aNil_s, e2, e9, Res.bind_ok, List.length_cons, List.length_nil, hb, ho, resT_ok, asB_bool, ofO_some]
    rw [hpart]
    by_cases hlt : x < (wsum s : Rat)
    · simp [hlt, ho]
    · simp [hlt]; rfl
  obtain ⟨ρ', h1, a, b, rfl⟩ := fL_pre (W := none) (g := gTu 2 (gsCons (gN 7) (gsCons (gN 11) gsNil))) (body := lB__law_rung_pays_2) pr
    (fun pre ρ => ∃ a b, ρ = [some (.d (.int (n : Int))), some (.d (rd (.fixed s))), some (.d (fr x)), some (.own (rtL n (fun h => match lk pre h with | none => 0 | some w => (w : Rat) * part))), none, none, none, a, none, some (.d (.tuple [.int (wsum s : Int), .int 1])), some (.d (fr part)), b, none, none, none, none, none, none]) s
    [some (.d (.int (n : Int))), some (.d (rd (.fixed s))), some (.d (fr x)), some (.own (rtL n fun _ => 0)), none, none, none, none, none, some (.d (.tuple [.int (wsum s : Int), .int 1])), some (.d (fr part)), none, none, none, none, none, none, none] ⟨none, none, rfl⟩ (by
      rintro pre y post ρ e ⟨a, b, rfl⟩
      have hy : y ∈ s := by rw [e]; simp
      have hyn := (hs.el y hy).1
      have hy9 := (hs.el y hy).2.2
      have hno := dis_pre hs.dis e
      refine ⟨_, [some (.d (.int (n : Int))), some (.d (rd (.fixed s))), some (.d (fr x)), some (.own (rtL n (fun h => match lk (pre ++ [y]) h with | none => 0 | some w => (w : Rat) * part))), none, none, none, some (.d (iD y.1)), none, some (.d (.tuple [.int (wsum s : Int), .int 1])), some (.d (fr part)), some (.d (iD y.2)), none, none, none, none, none, none], by simp; rfl, ?_, _, _, rfl⟩
      have hs1 := set_rtL (n := n) (h := y.1) (r := fun h => match lk pre h with | none => 0 | some w => (w : Rat) * part) (v := ((y.2 : Nat) : Rat) * part) hyn
      have efun : (fun j => if j = y.1 then ((y.2 : Nat) : Rat) * part else (match lk pre j with | none => 0 | some w => (w : Rat) * part)) = (fun h => match lk (pre ++ [y]) h with | none => 0 | some w => (w : Rat) * part) := by
        have e2 : ∀ (pre : List (Nat × Nat)) (j : Nat), lk (pre ++ [y]) j = match lk pre j with | some v => some v | none => if y.1 = j then some y.2 else none := by
          intro pre j
          induction pre with
          | nil => rfl
          | cons p pre ih =>
            rw [List.cons_append]
            unfold lk
            by_cases hp : p.1 = j
            · simp [hp]
            · simp only [hp, if_false]; exact ih
        funext j
        rw [e2]
        by_cases hj : j = y.1
        · subst hj; rw [hno]; simp
        · rw [if_neg hj]
          cases lk pre j with
          | none => simp only; rw [if_neg (Ne.symm hj)]
          | some v => rfl
      rw [efun] at hs1
      have ht := ltimes_ok (a := ((y.2 : Nat) : Rat)) (b := part) ((Bd.nat (k := 10) (Nat.lt_of_le_of_lt hy9 (by decide)) (by decide)).mono (by decide)) (bpart.mono (by omega))
      rw [← nat_fr] at ht
      simp only [lB__law_rung_pays_2]
      simp [ht, hs1])
  have htw := ltimes_ok (a := ((wsum s : Nat) : Rat)) (b := part) (bW.mono (by decide)) (bpart.mono (by omega))
  have hls := lless_ok (a := x) (b := ((wsum s : Nat) : Rat) * part) (hxb.mono (by omega)) ((bW.mul bpart).mono (by omega))
  rw [← nat_fr] at htw
  have efin : (fun h => match lk s h with | none => (0 : Rat) | some w => (w : Rat) * part) = ev (pcs (.fixed s)) x := by funext h; exact (hpay h).symm
  rw [efin] at h1
  unfold F__law_rung_pays
  simp only [B__law_rung_pays]
  have hrd1 : ixD (rd (.fixed s)) (.int 1) = some (prs s) := by rfl
  have hrd0 : ixD (rd (.fixed s)) (.int 0) = some (.str "fixed") := by rfl
  simp [mulL_zero hn, hrd0, hrd1, wipeOk, show s.length ≤ 100000 by omega, hc1, sumD_pairs, -eIf_s]
  rw [hpe _ 0 rfl rfl]
  simp [hrd1, h1, htw, hls]
end Sx

namespace Sx
open PySem PySem.Spec PyProof.Rows L2 Mx
theorem max2_1 {s : Nat} : max2D [.int 1, .int (s : Int)] = some (.int ((max 1 s : Nat) : Int)) := by
  show some (PyData.int _) = _
  congr 2
  have : ((max 1 s : Nat) : Int) = max 1 (s : Int) := by omega
  rw [this]
  try rfl
  try omega
theorem csum_int (C : List (Nat × Nat)) : ∀ F : List Nat, (F.map fun h => (capR C h : Int)).sum = (csum C F : Int)
  | [] => rfl
  | h :: F => by
    rw [List.map_cons, List.sum_cons, csum_int C F]
    show _ = ((capR C h + csum C F : Nat) : Int)
    rw [Int.natCast_add]
theorem csum_le {C : List (Nat × Nat)} {n : Nat} (h : POk n 999 C) : ∀ F : List Nat, csum C F ≤ 999 * F.length
  | [] => Nat.le_refl _
  | k :: F => by
    have := csum_le h F
    have := capR_le h k
    show capR C k + csum C F ≤ _
    rw [List.length_cons, Nat.mul_succ]
    omega
abbrev lawS (n : Nat) (r : Dt) (x : Rat) (pd : List Dt) (C : List (Nat × Nat)) (F : List Nat) (go : Bool) (j7 j8 l12 f13 v14 m15 : Option SV) : Sl :=
  [some (.d (.int (n : Int))), some (.d r), some (.d (fr x)), some (.own pd), some (.dk (kvI C)), some (.d (.list (F.map iD))), some (.d (.bool go)), j7, j8, none, none, none, l12, f13, v14, m15, none, none]
theorem law_more {n k : Nat} {A B C : List (Nat × Nat)} {r : Dt} {x v : Rat} {pd : List Dt} {F : List Nat} {go : Bool} {j7 j8 l12 f13 : Option SV} (hB : ∀ p ∈ B, 1 ≤ p.2 ∧ p.2 ≤ 20) (hC : POk n 999 C) (hlB : B.length ≤ 1000) (hv : Bd k v) (hk : k ≤ 4000) :
    ∃ a b, (B ≠ [] → keyB a ∧ keyB b) ∧ (B = [] → a = j7 ∧ b = j8) ∧ fL (gTu 2 (gsCons (gN 7) (gsCons (gN 8) gsNil))) lB__law_rung_pays_8 (B.map pr) (lawS n r x pd C F go j7 j8 l12 f13 (some (.d (fr v))) (some (.own []))) none = .nx (lawS n r x pd C F go a b l12 f13 (some (.d (fr v))) (some (.own (((B.filter (moreQ C v)).map (·.1)).map iD)))) none := by
  obtain ⟨ρ', h1, a, b, h2, h3, rfl⟩ := fL_pre (W := none) (g := gTu 2 (gsCons (gN 7) (gsCons (gN 8) gsNil))) (body := lB__law_rung_pays_8) pr
    (fun pre ρ => ∃ a b, (pre ≠ [] → keyB a ∧ keyB b) ∧ (pre = [] → a = j7 ∧ b = j8) ∧ ρ = lawS n r x pd C F go a b l12 f13 (some (.d (fr v))) (some (.own (((pre.filter (moreQ C v)).map (·.1)).map iD)))) B
    (lawS n r x pd C F go j7 j8 l12 f13 (some (.d (fr v))) (some (.own []))) ⟨j7, j8, fun z => absurd rfl z, fun _ => ⟨rfl, rfl⟩, rfl⟩ (by
      rintro pre y post ρ e ⟨a, b, _, _, rfl⟩
      have hy : y ∈ B := by rw [e]; simp
      obtain ⟨hy1, hy2⟩ := hB y hy
      have hpl : pre.length ≤ 1000 := by
        have := congrArg List.length e
        rw [List.length_append] at this
        omega
      refine ⟨_, lawS n r x pd C F go (some (.d (iD y.1))) (some (.d (iD y.2))) l12 f13 (some (.d (fr v))) (some (.own ((((pre ++ [y]).filter (moreQ C v)).map (·.1)).map iD))), by simp [lawS]; rfl, ?_, _, _, fun _ => ⟨.inr ⟨_, rfl⟩, .inr ⟨_, rfl⟩⟩, fun z => (by simp at z), rfl⟩
      have hvv := valD_kvI y.1 C
      rw [List.filter_append]
      cases hc : lk C y.1 with
      | none =>
        rw [hc] at hvv
        have hq : moreQ C v y = false := by unfold moreQ; rw [hc]
        simp [lB__law_rung_pays_8, lawS, hvv, hq]
      | some c =>
        rw [hc] at hvv
        have hc9 := (hC.el _ (lk_mem hc)).2.2
        have hb := lbelow_raw (c := c) (w := y.2) (v := v) (Nat.lt_of_le_of_lt hc9 (by decide)) (Nat.lt_of_le_of_lt hy2 (by decide)) (hv.mono hk)
        have hlt : (pre.filter (moreQ C v)).length < 100000 := by
          have := List.length_filter_le (moreQ C v) pre
          omega
        have hq : moreQ C v y = decide ((c : Rat) < v * (y.2 : Rat)) := by unfold moreQ; rw [hc]
        by_cases hlv : (c : Rat) < v * (y.2 : Rat)
        · rw [decide_eq_true hlv] at hq hb
          simp [lB__law_rung_pays_8, lawS, hvv, hq, hb, hlt]
        · rw [decide_eq_false hlv] at hq hb
          simp [lB__law_rung_pays_8, lawS, hvv, hq, hb])
  exact ⟨a, b, h2, h3, h1⟩
theorem law_turn {n k : Nat} {w C : List (Nat × Nat)} {x : Rat} {pd : List Dt} {F : List Nat} {j7 j8 l12 f13 v14 m15 : Option SV} (hok : (Rung.shares w C).Ok n) (hn : n ≤ 5) (hF : ∀ h ∈ F, ∃ c, lk C h = some c) (hFl : F.length ≤ 5) (hxb : Bd k x) (hk : k ≤ 1000) (k7 : keyB j7) (k8 : keyB j8) :
    ∃ a b, keyB a ∧ keyB b ∧ wB__law_rung_pays_4 (lawS n (rd (.shares w C)) x pd C F true j7 j8 l12 f13 v14 m15) none =
      .nx (lawS n (rd (.shares w C)) x pd C (F ++ moreA w C F x) (!(moreA w C F x).isEmpty) a b (some (.d (fr (x - (csum C F : Rat))))) (some (.d (.list ((freeA w F).map pr)))) (some (.d (fr (lvl w C F x)))) (some (.own ((moreA w C F x).map iD)))) none ∧ Bd (k + 21) (lvl w C F x) := by
  have hlw := pok_len hok.2.1
  have hcs := csum_le hok.2.2.1 F
  have hcs5 : csum C F ≤ 4995 := by
    have : 999 * F.length ≤ 999 * 5 := Nat.mul_le_mul_left _ hFl
    omega
  have bcs : Bd 13 ((csum C F : Nat) : Rat) := Bd.nat (Nat.lt_of_le_of_lt hcs5 (by decide)) (by decide)
  have bleft := hxb.sub bcs
  have hfl : (freeA w F).length ≤ 5 := by
    have := List.length_filter_le (fun p : Nat × Nat => !F.contains p.1) w
    unfold freeA
    omega
  have hfw : ∀ p ∈ freeA w F, 1 ≤ p.2 ∧ p.2 ≤ 20 := fun p hp => (hok.2.1.el p (List.mem_filter.mp hp).1).2
  have hWle : wsum (freeA w F) ≤ 100 := by
    have := wsum_le fun p hp => (hfw p hp).2
    have : 20 * (freeA w F).length ≤ 20 * 5 := Nat.mul_le_mul_left _ hfl
    omega
  have hWm : max 1 (wsum (freeA w F)) ≤ 100 := by omega
  have bW : Bd 7 ((max 1 (wsum (freeA w F)) : Nat) : Rat) := Bd.nat (Nat.lt_of_le_of_lt hWm (by decide)) (by decide)
  have hWp : (0 : Rat) < ((max 1 (wsum (freeA w F)) : Nat) : Rat) := Rat.natCast_pos.mpr (by omega)
  have blv : Bd (k + 21) (lvl w C F x) := (bleft.div bW (by decide)).mono (by omega)
  have hless := lless_ok (a := x) (b := ((csum C F : Nat) : Rat)) (hxb.mono (by omega)) (bcs.mono (by decide))
  have hover := lover_ok (a := x - (csum C F : Rat)) (b := ((max 1 (wsum (freeA w F)) : Nat) : Rat)) (bleft.mono (by omega)) (bW.mono (by decide)) hWp
  rw [← nat_fr] at hless hover
  have c5 : ∀ (y0 y1 y2 y3 y5 y6 y8 y12 y13 y14 y15 : Option SV), cL (gN 7) bYes cE__law_rung_pays_5 [y0, y1, y2, y3, some (.dk (kvI C)), y5, y6, none, y8, none, none, none, y12, y13, y14, y15, none, none] (F.map iD) none = .ok (F.map (fun h => PyData.int (capR C h : Int)), none) := fun y0 y1 y2 y3 y5 y6 y8 y12 y13 y14 y15 => by
    refine cL_map iD _ _ fun h hh => ⟨_, by simp; rfl, ?_⟩
    obtain ⟨c, hc⟩ := hF h hh
    have hv := valD_kvI h C
    rw [hc] at hv
    have : capR C h = c := by unfold capR; rw [hc]; rfl
    simp [cE__law_rung_pays_5, hv, this]
  have s5 : sumD [.list (F.map fun h => PyData.int (capR C h : Int))] = some (.int (csum C F)) := by rw [sumD_map (fun h => (capR C h : Int)) F, csum_int]
  have c6 : ∀ (y0 y1 y2 y3 y4 y6 y7 y8 y12 y13 y14 y15 : Option SV), cL (gN 17) cC__law_rung_pays_6 cE__law_rung_pays_6 [y0, y1, y2, y3, y4, some (.d (.list (F.map iD))), y6, y7, y8, none, none, none, y12, y13, y14, y15, none, none] (w.map pr) none = .ok ((freeA w F).map pr, none) := fun y0 y1 y2 y3 y4 y6 y7 y8 y12 y13 y14 y15 => by
    unfold freeA
    refine cL_ty pr _ _ w fun p hp => ⟨_, by simp; rfl, ?_, fun _ => by simp [cE__law_rung_pays_6]⟩
    have := notInD_ints (k := p.1) (ks := F)
    have this : notInD (iD p.1) (.list (F.map iD)) = some (.bool (!F.contains p.1)) := this
    simp only [cC__law_rung_pays_6]
    generalize F.contains p.1 = bb at this ⊢
    simp [this]
  have c7 : ∀ (y0 y1 y2 y3 y4 y5 y6 y12 y13 y14 y15 : Option SV), cL (gTu 2 (gsCons (gN 7) (gsCons (gN 8) gsNil))) bYes cE__law_rung_pays_7 [y0, y1, y2, y3, y4, y5, y6, none, none, none, none, none, y12, y13, y14, y15, none, none] ((freeA w F).map pr) none = .ok ((freeA w F).map (fun p => PyData.int (p.2 : Int)), none) := fun y0 y1 y2 y3 y4 y5 y6 y12 y13 y14 y15 => by
    refine cL_map pr _ _ fun p hp => ⟨_, by simp; rfl, ?_⟩
    simp [cE__law_rung_pays_7]
  obtain ⟨a, b, ha, hb, hloop⟩ := law_more (n := n) (A := w) (B := freeA w F) (C := C) (r := rd (.shares w C)) (x := x) (v := lvl w C F x) (pd := pd) (F := F) (go := true) (j7 := j7) (j8 := j8) (l12 := some (.d (fr (x - (csum C F : Rat))))) (f13 := some (.d (.list ((freeA w F).map pr)))) hfw hok.2.2.1 (by omega) blv (by omega)
  have hab : keyB a ∧ keyB b := by
    by_cases hz : freeA w F = []
    · obtain ⟨e1, e2⟩ := hb hz
      rw [e1, e2]; exact ⟨k7, k8⟩
    · exact ha hz
  refine ⟨a, b, hab.1, hab.2, ?_, blv⟩
  have em : ((freeA w F).filter (moreQ C (lvl w C F x))).map (·.1) = moreA w C F x := rfl
  rw [em] at hloop
  have hne := neD_nil (ds := (moreA w C F x).map iD) (k := 1) (flts_map fun _ _ => rfl) (by decide)
  have hml : (moreA w C F x).length ≤ 5 := by
    unfold moreA
    rw [List.length_map]
    have := List.length_filter_le (moreQ C (lvl w C F x)) (freeA w F)
    omega
  have hadd : addD (.list (F.map iD)) (.list ((moreA w C F x).map iD)) = some (.list ((F ++ moreA w C F x).map iD)) := by
    show (if (F.map iD).length + ((moreA w C F x).map iD).length ≤ 100000 then some (PyData.list (F.map iD ++ (moreA w C F x).map iD)) else none) = _
    rw [if_pos (by rw [List.length_map, List.length_map]; omega), List.map_append]
  have hrd1 : ixD (rd (.shares w C)) (.int 1) = some (prs w) := by rfl
  have elv : (x - (csum C F : Rat)) / ((max 1 (wsum (freeA w F)) : Nat) : Rat) = lvl w C F x := rfl
  rw [elv] at hover
  have hemp : ((moreA w C F x).map iD).isEmpty = (moreA w C F x).isEmpty := by cases moreA w C F x <;> rfl
  rw [hemp] at hne
  have w7 : ∀ (y0 y1 y2 y3 y4 y5 y6 y8 y12 y13 y14 y15 : Option SV), wipeOk [y0, y1, y2, y3, y4, y5, y6, j7, y8, none, none, none, y12, y13, y14, y15, none, none] [7] = true := fun _ _ _ _ _ _ _ _ _ _ _ _ => wipe1 (i := 7) rfl k7
  have w78 : ∀ (y0 y1 y2 y3 y4 y5 y6 y12 y13 y14 y15 : Option SV), wipeOk [y0, y1, y2, y3, y4, y5, y6, j7, j8, none, none, none, y12, y13, y14, y15, none, none] [7, 8] = true := fun _ _ _ _ _ _ _ _ _ _ _ => wipe2 (i := 7) (i' := 8) rfl rfl k7 k8
  have w17 : ∀ (y0 y1 y2 y3 y4 y5 y6 y7 y8 y12 y13 y14 y15 : Option SV), wipeOk [y0, y1, y2, y3, y4, y5, y6, y7, y8, none, none, none, y12, y13, y14, y15, none, none] [17] = true := fun _ _ _ _ _ _ _ _ _ _ _ _ _ => rfl
  simp only [lawS] at hloop ⊢
  simp only [wB__law_rung_pays_4]
  simp [w7, w78, w17, c5, s5, hless, c6, c7, sumD_pairs, max2_1, hover, hrd1, show F.length ≤ 100000 by omega, show w.length ≤ 100000 by omega, show (freeA w F).length ≤ 100000 by omega, hloop, hadd, -List.map_append]
  rw [hne]
  simp [hadd, -List.map_append]
/-- the law's loop -/
theorem law_while {n k : Nat} {w C : List (Nat × Nat)} {x : Rat} {pd : List Dt} (hok : (Rung.shares w C).Ok n) (hn : n ≤ 5) (hxb : Bd k x) (hk : k ≤ 1000) : ∀ (m : Nat) (F : List Nat) (τ : Rat) (j7 j8 l12 f13 v14 m15 : Option SV), FInv w C x F τ → F.length + (freeA w F).length = w.length → (freeA w F).length < m → keyB j7 → keyB j8 →
    ∃ (F' : List Nat) (τ' : Rat) (a b m' : Option SV), F' = fullGo w C x m F ∧ FInv w C x F' τ' ∧ moreA w C F' x = [] ∧ F'.length + (freeA w F').length = w.length ∧
      wL wC__law_rung_pays_4 wB__law_rung_pays_4 (m + 1) (lawS n (rd (.shares w C)) x pd C F true j7 j8 l12 f13 v14 m15) none =
      .nx (lawS n (rd (.shares w C)) x pd C F' false a b (some (.d (fr (x - (csum C F' : Rat))))) (some (.d (.list ((freeA w F').map pr)))) (some (.d (fr (lvl w C F' x)))) m') none
  | 0, F, τ, j7, j8, l12, f13, v14, m15, i, hlen, hm, k7, k8 => by omega
  | m + 1, F, τ, j7, j8, l12, f13, v14, m15, i, hlen, hm, k7, k8 => by
    have hlw := pok_len hok.2.1
    obtain ⟨a, b, ka, kb, ht, _⟩ := law_turn (pd := pd) (l12 := l12) (f13 := f13) (v14 := v14) (m15 := m15) hok hn (fun h hh => by
      obtain ⟨w', c, _, h2, _⟩ := i.cap h (List.contains_iff_mem.mpr hh)
      exact ⟨c, h2⟩) (by omega) hxb hk k7 k8
    have hc1 : wC__law_rung_pays_4 (lawS n (rd (.shares w C)) x pd C F true j7 j8 l12 f13 v14 m15) none = .ok (true, none) := by
      simp [wC__law_rung_pays_4, lawS]
    unfold fullGo
    conv => rhs; intro F'; rhs; intro τ'; rhs; intro a; rhs; intro b; rhs; intro m'; rhs; rhs; rhs; rhs; lhs; unfold wL
    rw [hc1]
    simp only [rOut_ok, if_true]
    rw [ht]
    simp only
    by_cases hme : moreA w C F x = []
    · refine ⟨F, τ, a, b, some (.own []), by rw [if_pos hme], i, hme, hlen, ?_⟩
      have hc2 : ∀ (y : Bool) (F' : List Nat) (a b c d e f : Option SV), wC__law_rung_pays_4 (lawS n (rd (.shares w C)) x pd C F' y a b c d e f) none = .ok (y, none) := fun y F' a b c d e f => by
        simp [wC__law_rung_pays_4, lawS]
      unfold wL
      rw [hc2, hme]
      simp only [List.isEmpty_nil, Bool.not_true, rOut_ok, Bool.false_eq_true, if_false, List.append_nil, List.map_nil]
    · obtain ⟨i2, hl2⟩ := i.next hok.2.1.dis (fun p hp => (hok.2.1.el p hp).2.1) hme
      have hlen2 : (F ++ moreA w C F x).length + (freeA w (F ++ moreA w C F x)).length = w.length := by
        rw [more_free hok.2.1.dis, List.length_append]
        have h1 : (moreA w C F x).length = ((freeA w F).filter (moreQ C (lvl w C F x))).length := by unfold moreA; rw [List.length_map]
        have h2 : ∀ (l : List (Nat × Nat)) (q : Nat × Nat → Bool), (l.filter q).length + (l.filter fun p => !q p).length = l.length := by
          intro l q
          induction l with
          | nil => rfl
          | cons p l ih =>
            cases hq : q p with
            | true => rw [List.filter_cons_of_pos hq, List.filter_cons_of_neg (by simp [hq]), List.length_cons, List.length_cons]; omega
            | false => rw [List.filter_cons_of_neg (by simp [hq]), List.filter_cons_of_pos (by simp [hq]), List.length_cons, List.length_cons]; omega
        have h3 := h2 (freeA w F) (moreQ C (lvl w C F x))
        omega
      have hne : (moreA w C F x).isEmpty = false := by cases hq : moreA w C F x with
        | nil => exact absurd hq hme
        | cons _ _ => rfl
      rw [hne, if_neg hme]
      exact law_while hok hn hxb hk m (F ++ moreA w C F x) _ a b _ _ _ _ i2 hlen2 (by omega) ka kb
end Sx

namespace Sx
open PySem PySem.Spec PyProof.Rows L2 Mx
theorem lk_snoc {β : Type} {y : Nat × β} : ∀ (pre : List (Nat × β)) (j : Nat), lk (pre ++ [y]) j = match lk pre j with | some v => some v | none => if y.1 = j then some y.2 else none
  | [], j => rfl
  | p :: pre, j => by
    rw [List.cons_append]
    unfold lk
    by_cases hp : p.1 = j
    · simp [hp]
    · simp only [hp, if_false]; exact lk_snoc pre j
def lawP (pre C : List (Nat × Nat)) (v : Rat) (F : List Nat) (h : Nat) : Rat := match lk pre h with
  | none => 0
  | some w => if F.contains h then (capR C h : Rat) else v * (w : Rat)
theorem lawP_snoc {pre C : List (Nat × Nat)} {v : Rat} {F : List Nat} {y : Nat × Nat} (hno : lk pre y.1 = none) : lawP (pre ++ [y]) C v F = fun j => if j = y.1 then (if F.contains y.1 then (capR C y.1 : Rat) else v * (y.2 : Rat)) else lawP pre C v F j := by
  funext j
  unfold lawP
  rw [lk_snoc]
  by_cases hj : j = y.1
  · subst hj; rw [hno]; simp
  · rw [if_neg hj]
    cases lk pre j with
    | none => simp only; rw [if_neg (Ne.symm hj)]
    | some v => rfl
theorem shares_law {n k : Nat} {w C : List (Nat × Nat)} {x : Rat} (hok : (Rung.shares w C).Ok n) (hn : n ≤ 5) (hx : 0 ≤ x) (hxb : Bd k x) (hk : k ≤ 1000) :
    F__law_rung_pays [.int (n : Int), rd (.shares w C), fr x] = .ok (.tuple [.list (rtL n (ev (pcs (.shares w C)) x)), fr (x - sn n (ev (pcs (.shares w C)) x))]) ∧ ∀ h, Bd (k + 30) (ev (pcs (.shares w C)) x h) := by
  have hlw := pok_len hok.2.1
  have hlC := pok_len hok.2.2.1
  have hfree0 : freeA w [] = w := by unfold freeA; rw [List.filter_eq_self]; intro p _; rfl
  obtain ⟨F, τ, a, b, m', hFd, i, hme, hlen, hw⟩ := law_while (pd := rtL n fun _ => 0) hok hn hxb hk 6 [] 0 none none none none none none (FInv.start hx) (by rw [hfree0]; simp) (by rw [hfree0]; omega) (.inl rfl) (.inl rfl)
  have hFl : F.length ≤ 5 := by omega
  have hFc : ∀ h ∈ F, ∃ c, lk C h = some c := fun h hh => by
    obtain ⟨w', c, _, h2, _⟩ := i.cap h (List.contains_iff_mem.mpr hh)
    exact ⟨c, h2⟩
  obtain ⟨_, _, _, _, _, blv⟩ := law_turn (pd := []) (l12 := none) (f13 := none) (v14 := none) (m15 := none) hok hn hFc hFl hxb hk (.inl rfl) (.inl rfl)
  obtain ⟨hwf, hrest⟩ := i.end hok.2.1.dis (fun p hp => (hok.2.1.el p hp).2.1) hme
  have huq := hwf.uniq (wf_rung hok hx)
  have hfun : lawF w C x F = ev (pcs (.shares w C)) x := funext huq
  have hsn : sn n (ev (pcs (.shares w C)) x) = sm w (lawF w C x F) := by
    rw [← hfun]
    exact sn_sm hok.2.1.dis (fun p hp => (hok.2.1.el p hp).1) fun h e => by unfold lawF; rw [e]
  have hP : lawP w C (lvl w C F x) F = lawF w C x F := rfl
  have hcap10 : ∀ h, Bd 10 ((capR C h : Nat) : Rat) := fun h => Bd.nat (Nat.lt_of_le_of_lt (capR_le hok.2.2.1 h) (by decide)) (by decide)
  refine ⟨?_, fun h => ?_⟩
  · obtain ⟨ρ', h1, c, d, rfl⟩ := fL_pre (W := none) (g := gTu 2 (gsCons (gN 7) (gsCons (gN 8) gsNil))) (body := lB__law_rung_pays_9) pr
      (fun pre ρ => ∃ c d, ρ = lawS n (rd (.shares w C)) x (rtL n (lawP pre C (lvl w C F x) F)) C F false c d (some (.d (fr (x - (csum C F : Rat))))) (some (.d (.list ((freeA w F).map pr)))) (some (.d (fr (lvl w C F x)))) m') w
      (lawS n (rd (.shares w C)) x (rtL n fun _ => 0) C F false a b (some (.d (fr (x - (csum C F : Rat))))) (some (.d (.list ((freeA w F).map pr)))) (some (.d (fr (lvl w C F x)))) m') ⟨a, b, rfl⟩ (by
        rintro pre y post ρ e ⟨c, d, rfl⟩
        have hy : y ∈ w := by rw [e]; simp
        have hye := hok.2.1.el y hy
        have hno := dis_pre hok.2.1.dis e
        refine ⟨_, lawS n (rd (.shares w C)) x (rtL n (lawP (pre ++ [y]) C (lvl w C F x) F)) C F false (some (.d (iD y.1))) (some (.d (iD y.2))) (some (.d (fr (x - (csum C F : Rat))))) (some (.d (.list ((freeA w F).map pr)))) (some (.d (fr (lvl w C F x)))) m', by simp [lawS]; rfl, ?_, _, _, rfl⟩
        have hin : inD (iD y.1) (.list (F.map iD)) = some (.bool (F.contains y.1)) := inD_ints
        have hs1 := set_rtL (n := n) (h := y.1) (r := lawP pre C (lvl w C F x) F) (v := if F.contains y.1 then (capR C y.1 : Rat) else lvl w C F x * (y.2 : Rat)) hye.1
        rw [← lawP_snoc hno] at hs1
        have ht := ltimes_ok (a := lvl w C F x) (b := ((y.2 : Nat) : Rat)) (blv.mono (by omega)) ((Bd.nat (k := 5) (Nat.lt_of_le_of_lt hye.2.2 (by decide)) (by decide)).mono (by decide))
        rw [← nat_fr y.2] at ht
        have hvv := valD_kvI y.1 C
        cases hc : F.contains y.1 with
        | true =>
          obtain ⟨c', hc'⟩ := hFc y.1 (List.contains_iff_mem.mp hc)
          have hcr : capR C y.1 = c' := by unfold capR; rw [hc']; rfl
          rw [hc'] at hvv
          rw [hc] at hin hs1
          simp only [if_true] at hs1
          rw [← nat_fr, hcr] at hs1
          simp [lB__law_rung_pays_9, lawS, hin, hvv, hs1]
        | false =>
          rw [hc] at hin hs1
          simp only [Bool.false_eq_true, if_false] at hs1
          simp [lB__law_rung_pays_9, lawS, hin, ht, hs1])
    rw [hP, hfun] at h1
    have hc3 : ∀ x0 x1 x2 x3 : Option SV, cL (gTu 2 (gsCons (gN 7) (gsCons (gN 16) gsNil))) bYes cE__law_rung_pays_3 [x0, x1, x2, x3, none, none, none, none, none, none, none, none, none, none, none, none, none, none] (C.map pr) none = .ok (C.map pr, none) := fun x0 x1 x2 x3 => by
      refine cL_map pr _ _ fun p hp => ⟨_, by simp; rfl, ?_⟩
      simp [cE__law_rung_pays_3]
      rfl
    have hd := dictOf_pr hok.2.2.1.dis
    have hrd0 : ixD (rd (.shares w C)) (.int 0) = some (.str "shares") := by rfl
    have hrd1 : ixD (rd (.shares w C)) (.int 1) = some (prs w) := by rfl
    have hrd2 : ixD (rd (.shares w C)) (.int 2) = some (prs C) := by rfl
    have hsw : ∀ ρ W, sWhile (fun _ => 7) wC__law_rung_pays_4 wB__law_rung_pays_4 ρ W = wL wC__law_rung_pays_4 wB__law_rung_pays_4 7 ρ W := fun _ _ => rfl
    have heq := eqD_nil (ds := (freeA w F).map pr) (k := 1) (flts_map fun p _ => flt_pr) (by decide)
    have hre : x - sn n (ev (pcs (.shares w C)) x) = if freeA w F = [] then x - (csum C F : Rat) else 0 := by rw [hsn, ← hrest]
    simp only [lawS, List.map_nil] at hw h1
    unfold F__law_rung_pays
    simp only [B__law_rung_pays]
    rw [hre]
    by_cases hfe : freeA w F = []
    · rw [hfe] at heq hw h1 ⊢
      simp only [List.map_nil, List.isEmpty_nil] at heq hw h1
      simp [mulL_zero hn, hrd0, hrd1, hrd2, wipeOk, show C.length ≤ 100000 by omega, hc3, hd, hsw, hw, h1, heq]
    · have he2 : ((freeA w F).map pr).isEmpty = false := by cases hq : freeA w F with
        | nil => exact absurd hq hfe
        | cons _ _ => rfl
      rw [he2] at heq
      rw [if_neg hfe]
      simp [mulL_zero hn, hrd0, hrd1, hrd2, wipeOk, show C.length ≤ 100000 by omega, hc3, hd, hsw, hw, h1, heq]
      rfl
  · rw [← huq h]
    unfold lawF
    cases hl : lk w h with
    | none => exact (show Bd 1 (0 : Rat) from ⟨by decide, by decide⟩).mono (by omega)
    | some y =>
      have hy := (hok.2.1.el _ (lk_mem hl)).2.2
      simp only
      split
      · exact (hcap10 h).mono (by omega)
      · exact (blv.mul (Bd.nat (k := 5) (Nat.lt_of_le_of_lt hy (by decide)) (by decide))).mono (by omega)
theorem rung_law {n k : Nat} {r : Rung} {x : Rat} (hok : r.Ok n) (hn : n ≤ 5) (hx : 0 ≤ x) (hxb : Bd k x) (hk : k ≤ 1000) :
    F__law_rung_pays [.int (n : Int), rd r, fr x] = .ok (.tuple [.list (rtL n (ev (pcs r) x)), fr (x - sn n (ev (pcs r) x))]) ∧ ∀ h, Bd (k + 30) (ev (pcs r) x h) := by
  cases r with
  | shares w C => exact shares_law hok hn hx hxb hk
  | fixed s =>
    refine ⟨fixed_law hn hok.1 hok.2 hx hxb hk, fun h => ?_⟩
    have hw : ∀ p ∈ s, 0 < p.2 := fun p hp => (hok.2.el p hp).2.1
    have hWn := wsum_pos hw hok.1
    have hlen := pok_len hok.2
    have hWle : wsum s ≤ 4995 := by
      have a := wsum_le fun p hp => (hok.2.el p hp).2.2
      have : 999 * s.length ≤ 999 * 5 := Nat.mul_le_mul_left _ (by omega)
      omega
    have br : Bd 13 (rt s (wsum s : Rat) h) := by
      unfold rt
      cases hl : lk s h with
      | none => exact (show Bd 13 (0 : Rat) from ⟨by decide, by decide⟩)
      | some y =>
        have := (hok.2.el _ (lk_mem hl)).2.2
        exact bd_frac hWn (by omega) (by omega)
    show Bd (k + 30) (ev [(some (wsum s : Rat), rt s (wsum s : Rat))] x h)
    by_cases hxl : x ≤ (wsum s : Rat)
    · rw [ev_le hxl]; exact (br.mul hxb).mono (by omega)
    · rw [ev_gt hxl]
      show Bd (k + 30) (rt s (wsum s : Rat) h * (wsum s : Rat) + 0)
      rw [show rt s (wsum s : Rat) h * (wsum s : Rat) + 0 = rt s (wsum s : Rat) h * (wsum s : Rat) by grind]
      exact (br.mul (Bd.nat (k := 13) (Nat.lt_of_le_of_lt hWle (by decide)) (by decide))).mono (by omega)
end Sx

namespace Sx
open PySem PySem.Spec PyProof.Rows L2 Mx
theorem Ok_C {n : Nat} {r : Rung} (h : r.Ok n) : POk n 999 r.C := by
  cases r with
  | fixed s => exact h.2
  | shares w c => exact h.2.2.1
theorem Ok_A {n : Nat} {r : Rung} (h : r.Ok n) : Dis r.A ∧ ∀ p ∈ r.A, p.1 < n := by
  cases r with
  | fixed s => exact ⟨h.2.dis, fun p hp => (h.2.el p hp).1⟩
  | shares w c => exact ⟨h.2.1.dis, fun p hp => (h.2.1.el p hp).1⟩
theorem ev_supp {n : Nat} {r : Rung} {x : Rat} (h : r.Ok n) (hx : 0 ≤ x) : ∀ j, lk r.A j = none → ev (pcs r) x j = 0 := fun j e => by
  obtain ⟨t, _, h1, _⟩ := (wf_rung h hx).ex
  rw [h1 j]; unfold mf; rw [e]
theorem tot_nat {n : Nat} {r : Rung} (h : r.Ok n) (hn : n ≤ 5) (he : r.endless = false) : ∃ u : Nat, u ≤ 4995 ∧ tot (pcs r) = (u : Rat) := by
  have k := pcs_ok h
  have f := pcs_fin h he
  have h0 := tot_nn k
  have hx : (0 : Rat) ≤ tot (pcs r) + 1 := by grind
  have hs := sn_ev_fin k f hx
  rw [if_neg (by grind)] at hs
  obtain ⟨t, _, h1, h2⟩ := (wf_rung h hx).ex
  have hA := Ok_A h
  have hsm := sn_sm hA.1 hA.2 (ev_supp h hx)
  rw [hs] at hsm
  rcases h2 with z | ⟨_, z⟩
  · rw [← hsm] at z; exfalso; grind
  · have hC := Ok_C h
    have e : sm r.A (ev (pcs r) (tot (pcs r) + 1)) = sm r.A (fun j => (capR r.C j : Rat)) := sm_congr fun p hp => by
      obtain ⟨c, e1, e2⟩ := z p hp
      rw [e2]
      rw [lk_ratC] at e1
      unfold capR
      cases hq : lk r.C p.1 with
      | none => rw [hq] at e1; cases e1
      | some v => rw [hq] at e1; cases e1; rfl
    have : ∀ A : List (Nat × Nat), ∃ u : Nat, u ≤ 999 * A.length ∧ sm A (fun j => (capR r.C j : Rat)) = (u : Rat) := by
      intro A
      induction A with
      | nil => exact ⟨0, by omega, rfl⟩
      | cons p A ih =>
        obtain ⟨u, h1, h2⟩ := ih
        refine ⟨capR r.C p.1 + u, ?_, by rw [sm_cons, h2, Rat.natCast_add]⟩
        have := capR_le hC p.1
        rw [List.length_cons, Nat.mul_succ]; omega
    obtain ⟨u, hu, eu⟩ := this r.A
    have hlen : r.A.length ≤ 5 := by
      have := nodup_le (l := r.A.map (·.1)) (m := List.range n) (by
        unfold List.Nodup
        rw [List.pairwise_map]
        exact hA.1) fun a ha => by
          obtain ⟨p, hp, rfl⟩ := List.mem_map.mp ha
          exact List.mem_range.mpr (hA.2 p hp)
      rw [List.length_map, List.length_range] at this
      omega
    refine ⟨u, ?_, by rw [hsm, e, eu]⟩
    have : 999 * r.A.length ≤ 999 * 5 := Nat.mul_le_mul_left _ hlen
    omega
theorem rest_bd {n k : Nat} {r : Rung} {x : Rat} (h : r.Ok n) (hn : n ≤ 5) (hx : 0 ≤ x) (hxb : Bd k x) : 0 ≤ x - sn n (ev (pcs r) x) ∧ Bd (k + 14) (x - sn n (ev (pcs r) x)) := by
  have b0 : Bd (k + 14) (0 : Rat) := (show Bd 1 (0 : Rat) from ⟨by decide, by decide⟩).mono (by omega)
  cases he : r.endless with
  | true =>
    rw [sn_ev_end (pcs_ok h) (pcs_end h he) hx, show x - x = 0 by grind]
    exact ⟨Rat.le_refl, b0⟩
  | false =>
    rw [sn_ev_fin (pcs_ok h) (pcs_fin h he) hx]
    split
    · rw [show x - x = 0 by grind]; exact ⟨Rat.le_refl, b0⟩
    · rename_i hgt
      obtain ⟨u, hu, e⟩ := tot_nat h hn he
      rw [e] at hgt ⊢
      refine ⟨by grind, (hxb.sub (Bd.nat (k := 13) (Nat.lt_of_le_of_lt hu (by decide)) (by decide))).mono (by omega)⟩
/-- what each rung pays -/
def paysR (n : Nat) : List Rung → Rat → List (Nat → Rat)
  | [], _ => []
  | r :: rs, x => ev (pcs r) x :: paysR n rs (x - sn n (ev (pcs r) x))
theorem pays_loop {l : Lad} (hn : l.n ≤ 5) {x1 : Option SV} : ∀ (rs : List Rung) (x : Rat) (k : Nat) (acc : List Dt) (a b : Option SV), (∀ r ∈ rs, r.Ok l.n) → 0 ≤ x → Bd k x → k + 14 * rs.length ≤ 1000 → acc.length + rs.length ≤ 1000 →
    ∃ y a' b', fL (gN 4) lB__law_pays_1 (rs.map rd) [some (.d (ld l)), x1, some (.own acc), some (.d (fr x)), a, b] none = .nx [some (.d (ld l)), x1, some (.own (acc ++ (paysR l.n rs x).map (fun f => .tuple (rtL l.n f)))), y, a', b'] none
  | [], x, k, acc, a, b, _, _, _, _, _ => ⟨some (.d (fr x)), a, b, by simp [paysR]⟩
  | r :: rs, x, k, acc, a, b, ok, hx, hxb, hk, hl => by
    rw [List.length_cons] at hk hl
    have hr := ok r (by simp)
    have h1 := (rung_law hr hn hx hxb (by omega)).1
    obtain ⟨h2, h3⟩ := rest_bd hr hn hx hxb
    obtain ⟨y, a', b', ih⟩ := pays_loop hn (x1 := x1) rs _ (k + 14) (acc ++ [.tuple (rtL l.n (ev (pcs r) x))]) (some (.d (rd r))) (some (.d (.list (rtL l.n (ev (pcs r) x))))) (fun q hq => ok q (List.mem_cons_of_mem _ hq)) h2 h3 (by omega) (by simp; omega)
    refine ⟨y, a', b', ?_⟩
    rw [List.map_cons, fL_cons]
    have eb : lB__law_pays_1 [some (.d (ld l)), x1, some (.own acc), some (.d (fr x)), some (.d (rd r)), b] none = .nx [some (.d (ld l)), x1, some (.own (acc ++ [.tuple (rtL l.n (ev (pcs r) x))])), some (.d (fr (x - sn l.n (ev (pcs r) x)))), some (.d (rd r)), some (.d (.list (rtL l.n (ev (pcs r) x))))] none := by
      simp [lB__law_pays_1, h1, show acc.length < 100000 by omega]
    simp only [gN_s]
    simp
    rw [eb]
    simp only
    rw [ih, show paysR l.n (r :: rs) x = ev (pcs r) x :: paysR l.n rs (x - sn l.n (ev (pcs r) x)) from rfl, List.map_cons, List.append_assoc]
    rfl
theorem pays_ok {l : Lad} {k : Nat} {x : Rat} (hk : l.Ok) (hx : 0 ≤ x) (hxb : Bd k x) (hkk : k ≤ 900) : F__law_pays [ld l, fr x] = .ok (.list ((paysR l.n l.rs x).map (fun f => .tuple (rtL l.n f)))) := by
  have h4 := hk.r4
  obtain ⟨y, a, b, h⟩ := pays_loop hk.n5 (x1 := some (.d (fr x))) l.rs x k [] none none hk.ok hx hxb (by omega) (by simp; omega)
  unfold F__law_pays
  simp only [B__law_pays]
  simp only [List.nil_append] at h
  simp [h]
theorem paysR_bd {n : Nat} (hn : n ≤ 5) : ∀ (rs : List Rung) (x : Rat) (k : Nat), (∀ r ∈ rs, r.Ok n) → 0 ≤ x → Bd k x → k + 14 * rs.length ≤ 900 → ∀ f ∈ paysR n rs x, ∀ h, Bd 1000 (f h)
  | [], _, _, _, _, _, _, f, hf, _ => by cases hf
  | r :: rs, x, k, ok, hx, hxb, hk, f, hf, h => by
    rw [List.length_cons] at hk
    have hr := ok r (by simp)
    obtain ⟨h2, h3⟩ := rest_bd hr hn hx hxb
    unfold paysR at hf
    rcases List.mem_cons.mp hf with z | z
    · rw [z]; exact ((rung_law hr hn hx hxb (by omega)).2 h).mono (by omega)
    · exact paysR_bd hn rs _ (k + 14) (fun q hq => ok q (List.mem_cons_of_mem _ hq)) h2 h3 (by omega) f z h
def sumF : List (Nat → Rat) → (Nat → Rat) → Nat → Rat
  | [], g => g
  | f :: fs, g => sumF fs fun h => g h + f h
theorem sumF_Tq {n : Nat} : ∀ (rs : List Rung) (x : Rat) (g : Nat → Rat) (h : Nat), sumF (paysR n rs x) g h = g h + Tq n rs x h
  | [], x, g, h => by show g h = g h + 0; grind
  | r :: rs, x, g, h => by
    show sumF (paysR n rs (x - sn n (ev (pcs r) x))) (fun h => g h + ev (pcs r) x h) h = g h + (ev (pcs r) x h + Tq n rs (x - sn n (ev (pcs r) x)) h)
    rw [sumF_Tq rs]
    grind
theorem total_loop {n : Nat} {x0 x1 : Option SV} (hn : n ≤ 5) : ∀ (fs : List (Nat → Rat)) (g : Nat → Rat) (k : Nat) (a b : Option SV), (∀ f ∈ fs, ∀ h, Bd 1000 (f h)) → (∀ h, Bd k (g h)) → k + 1001 * fs.length ≤ 5000 → (fs ≠ [] → k + 1001 * (fs.length - 1) ≤ 4000) →
    ∃ a', fL (gN 3) lB__law_total_1 (fs.map fun f => .tuple (rtL n f)) [x0, x1, some (.d (.list (rtL n g))), a, none, none] none = .nx [x0, x1, some (.d (.list (rtL n (sumF fs g)))), a', none, none] none
  | [], g, k, a, b, _, _, _, _ => ⟨a, rfl⟩
  | f :: fs, g, k, a, b, hf, hg, hk, hk2 => by
    rw [List.length_cons] at hk hk2
    have hk3 := hk2 (by simp)
    have hc : ∀ (y0 y1 y2 y3 : Option SV), cL (gTu 2 (gsCons (gN 4) (gsCons (gN 5) gsNil))) bYes cE__law_total_2 [y0, y1, y2, y3, none, none] ((List.range n).map fun h => PyData.tuple [fr (g h), fr (f h)]) none = .ok (rtL n (fun h => g h + f h), none) := fun y0 y1 y2 y3 => by
      unfold rtL
      refine cL_map (fun h => PyData.tuple [fr (g h), fr (f h)]) _ _ fun i hi => ⟨_, by simp; rfl, ?_⟩
      have := lplus_ok (a := g i) (b := f i) ((hg i).mono (by omega)) ((hf f (by simp) i).mono (by decide))
      simp [cE__law_total_2, this]
    obtain ⟨a', ih⟩ := total_loop (x0 := x0) (x1 := x1) hn fs (fun h => g h + f h) (k + 1000 + 1) (some (.d (.tuple (rtL n f)))) none (fun q hq => hf q (List.mem_cons_of_mem _ hq)) (fun h => (hg h).add (hf f (by simp) h)) (by omega) (fun hne => by
      have : 0 < fs.length := List.length_pos_iff.mpr hne
      omega)
    refine ⟨a', ?_⟩
    rw [List.map_cons, fL_cons]
    have eb : lB__law_total_1 [x0, x1, some (.d (.list (rtL n g))), some (.d (.tuple (rtL n f))), none, none] none = .nx [x0, x1, some (.d (.list (rtL n fun h => g h + f h))), some (.d (.tuple (rtL n f))), none, none] none := by
      simp [lB__law_total_1, zip_rtL, wipeOk, show n ≤ 100000 by omega, hc]
    simp only [gN_s]
    simp
    rw [eb]
    exact ih
theorem total_ok {l : Lad} {k : Nat} {x : Rat} (hk : l.Ok) (hx : 0 ≤ x) (hxb : Bd k x) (hkk : k ≤ 800) : F__law_total [ld l, fr x] = .ok (.tuple (rtL l.n (l.T x))) := by
  have h4 := hk.r4
  have h5 := hk.n5
  have hp := pays_ok hk hx hxb (by omega)
  have hlen : (paysR l.n l.rs x).length ≤ 4 := by
    have : ∀ (rs : List Rung) (x : Rat), (paysR l.n rs x).length = rs.length := by
      intro rs
      induction rs with
      | nil => intro x; rfl
      | cons r rs ih => intro x; show (_ :: paysR l.n rs _).length = _; rw [List.length_cons, List.length_cons, ih]
    rw [this]; exact h4
  obtain ⟨a, h⟩ := total_loop (n := l.n) (x0 := some (.d (ld l))) (x1 := some (.d (fr x))) h5 (paysR l.n l.rs x) (fun _ => 0) 1 none none (paysR_bd h5 l.rs x k hk.ok hx hxb (by omega)) (fun _ => (show Bd 1 (0 : Rat) from ⟨by decide, by decide⟩)) (by omega) (fun _ => by omega)
  have e : sumF (paysR l.n l.rs x) (fun _ => 0) = l.T x := by
    funext h
    rw [sumF_Tq, Tq_ev hk.ok hx]
    unfold Lad.T
    grind
  rw [e] at h
  have hm : mulD (.list [.tuple [.int 0, .int 1]]) (.int (l.n : Int)) = some (.list (rtL l.n fun _ => 0)) := by
    have := mulL_zero h5
    show (if (l.n : Int) ≤ 1000 ∧ -1000 ≤ (l.n : Int) ∧ 1 ≤ 1000 then some (PyData.list (List.replicate (l.n : Int).toNat [PyData.tuple [.int 0, .int 1]]).flatten) else none) = _
    have t2 : (if (l.n : Int) ≤ 1000 ∧ -1000 ≤ (l.n : Int) ∧ 1 ≤ 1000 then some (List.replicate (l.n : Int).toNat [PyData.tuple [.int 0, .int 1]]).flatten else none) = some (rtL l.n fun _ => 0) := this
    rw [if_pos (by omega)] at t2 ⊢
    rw [Option.some.inj t2]
  unfold F__law_total
  simp only [B__law_total]
  simp [hp, hm, h]
end Sx

namespace Mx
/-! what a ladder's payments keep -/
theorem Lad.Ok.zero {l : Lad} (k : l.Ok) (h : Nat) : l.T 0 h = 0 := ev_zero (lpcs_ok k.ok)
theorem Lad.Ok.mono {l : Lad} (k : l.Ok) {x y : Rat} (hx : 0 ≤ x) (hy : x ≤ y) (h : Nat) : l.T x h ≤ l.T y h := ev_mono (lpcs_ok k.ok) hx hy
theorem Lad.Ok.nn {l : Lad} (k : l.Ok) {x : Rat} (hx : 0 ≤ x) (h : Nat) : 0 ≤ l.T x h := ev_nn (lpcs_ok k.ok) hx
theorem Lad.Ok.sum {l : Lad} (k : l.Ok) {x : Rat} (hx : 0 ≤ x) : sn l.n (l.T x) = x := sn_ev_end (lpcs_ok k.ok) (lpcs_end k.ok k.ex) hx
/-! sums and caps multiplied -/
def mulP (m : Nat) (ps : List (Nat × Nat)) : List (Nat × Nat) := ps.map fun p => (p.1, m * p.2)
def Rung.mul (m : Nat) : Rung → Rung
  | .fixed s => .fixed (mulP m s)
  | .shares w c => .shares w (mulP m c)
theorem lk_mulP {m : Nat} {ps : List (Nat × Nat)} {h : Nat} : lk (mulP m ps) h = (lk ps h).map fun v => m * v := lk_map (fun _ v => m * v) ps h
theorem sm_mulP {m : Nat} {ps : List (Nat × Nat)} {f : Nat → Rat} : sm (mulP m ps) f = sm ps f := by
  unfold sm mulP
  rw [List.map_map]
  rfl
theorem scale_le {m : Nat} (hm : 0 < m) {a b : Rat} : (m : Rat) * a ≤ (m : Rat) * b ↔ a ≤ b := by
  have h : (0 : Rat) < (m : Rat) := Rat.natCast_pos.mpr hm
  constructor
  · intro z; exact Rat.le_of_mul_le_mul_left z h
  · intro z; exact Rat.mul_le_mul_of_nonneg_left z (Rat.le_of_lt h)
theorem wf_mul {n m : Nat} {r : Rung} {x : Rat} {f : Nat → Rat} (hm : 0 < m) (h : WF r.A (ratC r.C) x f) : WF (r.mul m).A (ratC (r.mul m).C) ((m : Rat) * x) (fun j => (m : Rat) * f j) := by
  obtain ⟨t, ht, h1, h2⟩ := h.ex
  have hmr : (0 : Rat) < (m : Rat) := Rat.natCast_pos.mpr hm
  have hsm : ∀ A : List (Nat × Nat), sm A (fun j => (m : Rat) * f j) = (m : Rat) * sm A f := fun A => by
    have : (fun j => (m : Rat) * f j) = fun j => f j * (m : Rat) := by funext j; grind
    rw [this, sm_mul]; grind
  cases r with
  | fixed s =>
    refine ⟨t, ht, fun j => ?_, ?_⟩
    · rw [h1 j]
      show (m : Rat) * mf s (ratC s) t j = mf (mulP m s) (ratC (mulP m s)) t j
      unfold mf
      rw [lk_ratC, lk_ratC, lk_mulP]
      cases lk s j with
      | none => simp only [Option.map_none]; grind
      | some v =>
        simp only [Option.map_some]
        rw [Rat.natCast_mul]
        have hq := scale_le hm (a := (v : Rat)) (b := (v : Rat) * t)
        rw [show (m : Rat) * (v : Rat) * t = (m : Rat) * ((v : Rat) * t) by grind]
        by_cases hc : (v : Rat) ≤ (v : Rat) * t
        · rw [if_pos hc, if_pos (hq.mpr hc)]
        · rw [if_neg hc, if_neg (fun z => hc (hq.mp z))]
    · show sm (mulP m s) _ = _ ∨ (sm (mulP m s) _ ≤ _ ∧ ∀ p ∈ mulP m s, ∃ c, lk (ratC (mulP m s)) p.1 = some c ∧ _ = c)
      rw [sm_mulP, hsm]
      rcases h2 with z | ⟨z, hall⟩
      · left; rw [show sm s f = x from z]
      · right
        refine ⟨(scale_le hm).mpr z, fun p hp => ?_⟩
        obtain ⟨q, hq, rfl⟩ := List.mem_map.mp hp
        obtain ⟨c, e1, e2⟩ := hall q hq
        refine ⟨(m : Rat) * c, ?_, by simp only; rw [e2]⟩
        have e1 : lk (ratC s) q.1 = some c := e1
        rw [lk_ratC] at e1 ⊢
        rw [lk_mulP]
        cases hs : lk s q.1 with
        | none => rw [hs] at e1; cases e1
        | some v => rw [hs] at e1; cases e1; simp only [Option.map_some]; rw [Rat.natCast_mul]
  | shares w c =>
    refine ⟨(m : Rat) * t, Rat.mul_nonneg (Rat.le_of_lt hmr) ht, fun j => ?_, ?_⟩
    · rw [h1 j]
      show (m : Rat) * mf w (ratC c) t j = mf w (ratC (mulP m c)) ((m : Rat) * t) j
      unfold mf
      rw [lk_ratC, lk_ratC, lk_mulP]
      cases lk w j with
      | none => simp only; grind
      | some v =>
        cases lk c j with
        | none => simp only [Option.map_none]; grind
        | some y =>
          simp only [Option.map_some]
          rw [Rat.natCast_mul]
          have hq := scale_le hm (a := (y : Rat)) (b := (v : Rat) * t)
          rw [show (v : Rat) * ((m : Rat) * t) = (m : Rat) * ((v : Rat) * t) by grind]
          by_cases hc : (y : Rat) ≤ (v : Rat) * t
          · rw [if_pos hc, if_pos (hq.mpr hc)]
          · rw [if_neg hc, if_neg (fun z => hc (hq.mp z))]
    · show sm w _ = _ ∨ (sm w _ ≤ _ ∧ ∀ p ∈ w, ∃ d, lk (ratC (mulP m c)) p.1 = some d ∧ _ = d)
      rw [hsm]
      rcases h2 with z | ⟨z, hall⟩
      · left; rw [show sm w f = x from z]
      · right
        refine ⟨(scale_le hm).mpr z, fun p hp => ?_⟩
        obtain ⟨d, e1, e2⟩ := hall p hp
        refine ⟨(m : Rat) * d, ?_, by rw [e2]⟩
        have e1 : lk (ratC c) p.1 = some d := e1
        rw [lk_ratC] at e1 ⊢
        rw [lk_mulP]
        cases hs : lk c p.1 with
        | none => rw [hs] at e1; cases e1
        | some v => rw [hs] at e1; cases e1; simp only [Option.map_some]; rw [Rat.natCast_mul]
theorem Tq_mul {n m : Nat} (hm : 0 < m) : ∀ (rs : List Rung) (x : Rat) (h : Nat), (∀ r ∈ rs, r.Ok n) → (∀ r ∈ rs, (r.mul m).Ok n) → 0 ≤ x → Tq n (rs.map (Rung.mul m)) ((m : Rat) * x) h = (m : Rat) * Tq n rs x h
  | [], x, h, _, _, _ => by show (0 : Rat) = (m : Rat) * 0; grind
  | r :: rs, x, h, k, k', hx => by
    have hmr : (0 : Rat) < (m : Rat) := Rat.natCast_pos.mpr hm
    have hr := k r (by simp)
    have hr' := k' r (by simp)
    have hmx : (0 : Rat) ≤ (m : Rat) * x := Rat.mul_nonneg (Rat.le_of_lt hmr) hx
    have hev : ∀ j, ev (pcs (r.mul m)) ((m : Rat) * x) j = (m : Rat) * ev (pcs r) x j := (wf_rung hr' hmx).uniq (wf_mul (n := n) hm (wf_rung hr hx))
    have hsn : sn n (ev (pcs (r.mul m)) ((m : Rat) * x)) = (m : Rat) * sn n (ev (pcs r) x) := by
      rw [sn_congr (g := fun j => ev (pcs r) x j * (m : Rat)) fun j _ => by rw [hev j]; grind, sn_mul]; grind
    have hrest : 0 ≤ x - sn n (ev (pcs r) x) := by
      cases he : r.endless with
      | true => rw [sn_ev_end (pcs_ok hr) (pcs_end hr he) hx]; grind
      | false =>
        rw [sn_ev_fin (pcs_ok hr) (pcs_fin hr he) hx]
        split <;> grind
    show ev (pcs (r.mul m)) ((m : Rat) * x) h + Tq n (rs.map (Rung.mul m)) ((m : Rat) * x - sn n (ev (pcs (r.mul m)) ((m : Rat) * x))) h = (m : Rat) * (ev (pcs r) x h + Tq n rs (x - sn n (ev (pcs r) x)) h)
    rw [hev, hsn, show (m : Rat) * x - (m : Rat) * sn n (ev (pcs r) x) = (m : Rat) * (x - sn n (ev (pcs r) x)) by grind, Tq_mul hm rs _ h (fun q hq => k q (List.mem_cons_of_mem _ hq)) (fun q hq => k' q (List.mem_cons_of_mem _ hq)) hrest]
    grind
def Lad.mul (m : Nat) (l : Lad) : Lad := ⟨l.n, l.rs.map (Rung.mul m)⟩
theorem Lad.T_mul {l : Lad} {m : Nat} {x : Rat} (hm : 0 < m) (k : l.Ok) (k' : (l.mul m).Ok) (hx : 0 ≤ x) (h : Nat) : (l.mul m).T ((m : Rat) * x) h = (m : Rat) * l.T x h := by
  have hmr : (0 : Rat) < (m : Rat) := Rat.natCast_pos.mpr hm
  have hmx : (0 : Rat) ≤ (m : Rat) * x := Rat.mul_nonneg (Rat.le_of_lt hmr) hx
  unfold Lad.T
  have k2 : ∀ r ∈ l.rs, (r.mul m).Ok l.n := fun r hr => k'.ok _ (List.mem_map.mpr ⟨r, hr, rfl⟩)
  have e := Tq_ev (n := l.n) (rs := (l.mul m).rs) (x := (m : Rat) * x) (h := h) k'.ok hmx
  rw [← e, ← Tq_ev k.ok hx]
  exact Tq_mul hm l.rs x h k.ok k2 hx
end Mx

namespace Sx
open PySem PySem.Spec PyProof.Rows L2 Mx
theorem sSeq_ex {a b : SS} {ρ ρ1 : Sl} {W W1 : Tw} {r : SV} (h : a ρ W = .nx ρ1 W1) (k : ∃ W', b ρ1 W1 = .rt r W') : ∃ W', sSeq a b ρ W = .rt r W' := by
  obtain ⟨W', k⟩ := k
  exact ⟨W', by rw [sSeq_s, h]; exact k⟩
theorem sSeq_rt {a b : SS} {ρ : Sl} {W : Tw} {r : SV} (h : ∃ W', a ρ W = .rt r W') : ∃ W', sSeq a b ρ W = .rt r W' := by
  obtain ⟨W', h⟩ := h
  exact ⟨W', by rw [sSeq_s, h]⟩
theorem runP_ex {m : Nat} {B : SS} {ds : List Dt} {x : Dt} (h : ∃ W', B (start0 m ds) none = .rt (.d x) W') : runP m B ds = .ok x := by
  obtain ⟨W', h⟩ := h
  rw [runP_s, h]
theorem flts_rtL {n : Nat} {f : Nat → Rat} : flts 1 (rtL n f) = true := flts_map fun _ _ => flt_fr
theorem flt_tup {n : Nat} {f : Nat → Rat} : flt 2 (.tuple (rtL n f)) = true := flts_rtL
theorem ne_pays {n : Nat} {f g : Nat → Rat} (h : ∀ i, f i = g i) : neD (.tuple (rtL n f)) (.tuple (rtL n g)) = some (.bool false) := by
  rw [funext h]
  exact neD_self flt_tup (by decide)
theorem eq_pays {n : Nat} {f g : Nat → Rat} (h : ∀ i, f i = g i) : eqD (.tuple (rtL n f)) (.tuple (rtL n g)) = some (.bool true) := by
  rw [funext h]
  exact eqD_self flt_tup (by decide)
theorem mulT_zero {n : Nat} (h1 : 1 ≤ n) (h : n ≤ 5) : mulD (.tuple [.tuple [.int 0, .int 1]]) (.int (n : Int)) = some (.tuple (rtL n fun _ => 0)) := by
  have := mulL_zero h
  have t2 : (if (n : Int) ≤ 1000 ∧ -1000 ≤ (n : Int) ∧ 1 ≤ 1000 then some (List.replicate (n : Int).toNat [PyData.tuple [.int 0, .int 1]]).flatten else none) = some (rtL n fun _ => 0) := this
  rw [if_pos (by omega)] at t2
  show (if 1 ≤ (n : Int) ∧ (n : Int) ≤ 1000 ∧ 1 ≤ 1000 ∧ [PyData.tuple [.int 0, .int 1]] ≠ ([] : List Dt) then some (PyData.tuple (List.replicate (n : Int).toNat [PyData.tuple [.int 0, .int 1]]).flatten) else none) = _
  rw [if_pos ⟨by omega, by omega, by omega, by simp⟩, Option.some.inj t2]
theorem Amt.nat {n : Nat} (h : n ≤ 1000000) : Amt (n : Rat) := ⟨Rat.natCast_nonneg, by
  have : (n : Rat) ≤ ((1000000 : Nat) : Rat) := Rat.natCast_le_natCast.mpr h
  exact this, by rw [Rat.den_natCast]; decide⟩
/-- payments one after the other, summed -/
theorem sum_loop {n k : Nat} {W : Tw} {f : Nat → Rat} {body : SS} {i j : Nat} (P : Dt → Option SV → Sl) (hf : ∀ h, Bd k (f h)) (hk : (k + 1) * (n + 1) ≤ 4000)
    (hg : ∀ w o h, gN j (fr (f h)) (P w o) = some (P w (some (.d (fr (f h))))))
    (hb : ∀ (s : Rat) (h : Nat), F__law_plus [fr s, fr (f h)] = .ok (fr (s + f h)) → body (P (fr s) (some (.d (fr (f h))))) W = .nx (P (fr (s + f h)) (some (.d (fr (f h))))) W) (o0 : Option SV) (k0 : keyB o0) :
    ∃ o, keyB o ∧ fL (gN j) body (rtL n f) (P (fr 0) o0) W = .nx (P (fr (sn n f)) o) W := by
  have key := fL_pre (W := W) (g := gN j) (body := body) (fun h => fr (f h)) (fun pre ρ => ∃ o, keyB o ∧ ρ = P (fr (pre.map f).sum) o ∧ Bd (1 + (k + 1) * pre.length) (pre.map f).sum) (List.range n) (P (fr 0) o0) ⟨o0, k0, rfl, (show Bd 1 (0 : Rat) from ⟨by decide, by decide⟩).mono (by simp)⟩ (by
    rintro pre x post ρ e ⟨o, _, rfl, hbd⟩
    have hl : pre.length < n := by
      have := congrArg List.length e
      rw [List.length_range, List.length_append, List.length_cons] at this
      omega
    have hle : (k + 1) * pre.length ≤ (k + 1) * n := Nat.mul_le_mul_left _ (by omega)
    have hmul : (k + 1) * (n + 1) = (k + 1) * n + (k + 1) := Nat.mul_succ _ _
    have hp := lplus_ok (a := (pre.map f).sum) (b := f x) (hbd.mono (by omega)) ((hf x).mono (by omega))
    have es : ((pre ++ [x]).map f).sum = (pre.map f).sum + f x := by rw [List.map_append, List.sum_append]; simp; grind
    refine ⟨_, _, hg _ _ _, hb _ _ hp, some (.d (fr (f x))), .inr ⟨_, rfl⟩, by rw [es], ?_⟩
    rw [es]
    refine (hbd.add (hf x)).mono ?_
    rw [List.length_append, List.length_singleton, Nat.mul_succ]
    omega)
  obtain ⟨ρ', h1, o, ko, rfl, _⟩ := key
  exact ⟨o, ko, h1⟩
end Sx

namespace Mx
/-! bends as a chain of lines -/
def Nb (a b : Row) : Prop := a.1 < b.1 ∧ b.2.1 = a.2.1 + a.2.2 * (b.1 - a.1) ∧ a.2.2 ≠ b.2.2
def Chn : List Row → Prop
  | [] => True
  | [_] => True
  | a :: b :: r => Nb a b ∧ Chn (b :: r)
theorem Chn.snoc : ∀ {rows : List Row} {b : Row}, Chn rows → (∀ a, rows.getLast? = some a → Nb a b) → Chn (rows ++ [b])
  | [], b, _, _ => trivial
  | [a], b, _, h => ⟨h a rfl, trivial⟩
  | a :: c :: r, b, k, h => ⟨k.1, Chn.snoc (rows := c :: r) k.2 fun x hx => h x (by rw [List.getLast?_cons_cons]; exact hx)⟩
structure CInv (acc : List Row) (s p : Rat) : Prop where
  ch : Chn acc
  lt : ∀ b, acc.getLast? = some b → b.1 < s ∧ p = b.2.1 + b.2.2 * (s - b.1)
theorem bgo_chain {n h : Nat} : ∀ (ps : List Pc) (acc : List Row) (s p : Rat), (∀ pc ∈ ps, PcOk n pc) → (∀ q qs, ps = q :: qs → q.1 = none → qs = []) → (∀ q qs, ps = q :: qs → End ps) → CInv acc s p → Chn (bgo h ps acc s p)
  | [], acc, s, p, _, _, _, i => i.ch
  | (o, r) :: ps, acc, s, p, k, e0, e1, i => by
    have k' : ∀ pc ∈ ps, PcOk n pc := fun pc hp => k pc (List.mem_cons_of_mem _ hp)
    have hnew : ∀ b, acc.getLast? = some b → ¬ b.2.2 = r h → Nb b (s, p, r h) := fun b hb hne => ⟨(i.lt b hb).1, (i.lt b hb).2, hne⟩
    have hc : Chn (addR acc s p (r h)) := by
      unfold addR
      cases hl : acc.getLast? with
      | none =>
        have : acc = [] := List.getLast?_eq_none_iff.mp hl
        subst this
        trivial
      | some b =>
        simp only
        split
        · exact i.ch
        · rename_i hne
          exact Chn.snoc i.ch fun a ha => by rw [hl] at ha; cases ha; exact hnew b hl hne
    have hlast : ∀ l, 0 < l → ∀ b, (addR acc s p (r h)).getLast? = some b → b.1 < s + l ∧ p + l * r h = b.2.1 + b.2.2 * (s + l - b.1) := by
      intro l hl b hb
      unfold addR at hb
      cases hq : acc.getLast? with
      | none =>
        rw [hq] at hb
        simp at hb
        subst hb
        exact ⟨by simp only; grind, by simp only; grind⟩
      | some c =>
        rw [hq] at hb
        simp only at hb
        obtain ⟨c1, c2⟩ := i.lt c hq
        split at hb
        · rename_i hr
          rw [hq] at hb
          cases hb
          exact ⟨by grind, by rw [c2, ← hr]; grind⟩
        · simp at hb
          subst hb
          exact ⟨by simp only; grind, by simp only; grind⟩
    cases o with
    | none =>
      have : ps = [] := e0 _ _ rfl rfl
      subst this
      exact hc
    | some l =>
      have hl := (k (some l, r) (by simp)).pos l rfl
      have e' := e1 _ _ rfl
      show Chn (bgo h ps (addR acc s p (r h)) (s + l) (p + l * r h))
      have ee : ps ≠ [] → End ps := fun hne => by
        obtain ⟨qs, r', hh, f⟩ := e'
        cases qs with
        | nil => simp at hh
        | cons q qs =>
          simp only [List.cons_append, List.cons.injEq] at hh
          exact ⟨qs, r', hh.2, fun pc hp => f pc (List.mem_cons_of_mem _ hp)⟩
      refine bgo_chain ps _ _ _ k' (fun q qs hps hq => ?_) (fun q qs hps => ee (by rw [hps]; simp)) ⟨hc, hlast l hl⟩
      obtain ⟨us, r', hh, f⟩ := ee (by rw [hps]; simp)
      rw [hps] at hh
      cases us with
      | nil => simp at hh; exact hh.2
      | cons u us =>
        simp only [List.cons_append, List.cons.injEq] at hh
        exact absurd hq (by rw [hh.1]; exact f u (by simp))
theorem rows_chain {n : Nat} {rs : List Rung} {h : Nat} (k : ∀ r ∈ rs, r.Ok n) (e : ∃ r ∈ rs, r.endless = true) : Chn (rowsL rs h) := by
  have h2 := lpcs_end k e
  refine bgo_chain (n := n) _ _ _ _ (lpcs_ok k) (fun q qs hps hq => ?_) (fun _ _ _ => h2) ⟨trivial, fun b hb => by cases hb⟩
  obtain ⟨us, r', hh, f⟩ := h2
  rw [hps] at hh
  cases us with
  | nil => simp at hh; exact hh.2
  | cons u us =>
    simp only [List.cons_append, List.cons.injEq] at hh
    exact absurd hq (by rw [hh.1]; exact f u (by simp))
/-! the rate after an amount -/
def rateAt : List Pc → Rat → Nat → Rat
  | [], _, _ => 0
  | (none, r) :: _, _, h => r h
  | (some l, r) :: ps, x, h => if x < l then r h else rateAt ps (x - l) h
theorem bgo_rate {n h : Nat} : ∀ (ps : List Pc) (acc : List Row) (s p x : Rat), (∀ pc ∈ ps, PcOk n pc) → End ps → RInv acc s p → s ≤ x → ∃ b, (upTo (bgo h ps acc s p) x).getLast? = some b ∧ b.2.2 = rateAt ps (x - s) h
  | [], _, _, _, _, _, e, _, _ => by obtain ⟨qs, r, h, _⟩ := e; simp at h
  | (o, r) :: ps, acc, s, p, x, k, e, i, hx => by
    have k' : ∀ pc ∈ ps, PcOk n pc := fun pc hp => k pc (List.mem_cons_of_mem _ hp)
    obtain ⟨i2, b, hb, hr⟩ := addR_inv (r := r h) i
    have hup : upTo (addR acc s p (r h)) x = addR acc s p (r h) := by
      unfold upTo
      rw [List.filter_eq_self]
      intro c hc
      have := i2.st c hc
      simp; exact Rat.not_lt.mpr (by grind)
    cases o with
    | none =>
      have hps : ps = [] := by
        obtain ⟨qs, r', h, f⟩ := e
        cases qs with
        | nil => simp at h; exact h.2
        | cons q qs =>
          simp only [List.cons_append, List.cons.injEq] at h
          exact absurd (by rw [← h.1]) (f q (by simp))
      subst hps
      exact ⟨b, by show (upTo (addR acc s p (r h)) x).getLast? = _; rw [hup]; exact hb, hr⟩
    | some l =>
      have hl := (k (some l, r) (by simp)).pos l rfl
      have e' : End ps := by
        obtain ⟨qs, r', h, f⟩ := e
        cases qs with
        | nil => simp at h
        | cons q qs =>
          simp only [List.cons_append, List.cons.injEq] at h
          exact ⟨qs, r', h.2, fun pc hp => f pc (List.mem_cons_of_mem _ hp)⟩
      show ∃ b, (upTo (bgo h ps (addR acc s p (r h)) (s + l) (p + l * r h)) x).getLast? = some b ∧ b.2.2 = if x - s < l then r h else rateAt ps (x - s - l) h
      by_cases hxl : s + l ≤ x
      · have i3 : RInv (addR acc s p (r h)) (s + l) (p + l * r h) := ⟨fun c hc => by have := i2.st c hc; grind, fun c hc => by
          have := i2.ln c hc
          rw [hb] at hc
          cases hc
          rw [this, hr]
          grind⟩
        rw [if_neg (by grind), show x - s - l = x - (s + l) by grind]
        exact bgo_rate ps _ _ _ x k' e' i3 hxl
      · rw [if_pos (by grind)]
        obtain ⟨m, em, hm⟩ := bgo_ext (h := h) ps (addR acc s p (r h)) (s + l) (p + l * r h) k'
        refine ⟨b, ?_, hr⟩
        rw [em]
        unfold upTo
        rw [List.filter_append, show (m.filter fun r => !decide (x < r.1)) = [] by
          rw [List.filter_eq_nil_iff]; intro c hc; have := hm c hc; simp; grind, List.append_nil]
        have := hup
        unfold upTo at this
        rw [this]; exact hb
theorem sn_rate {n : Nat} : ∀ {ps : List Pc} {x : Rat}, (∀ pc ∈ ps, PcOk n pc) → End ps → sn n (rateAt ps x) = 1
  | [], x, _, e => by obtain ⟨qs, r, h, _⟩ := e; simp at h
  | (none, r) :: ps, x, k, _ => by
    have e : rateAt ((none, r) :: ps) x = r := by funext h; rfl
    rw [e]; exact (k (none, r) (by simp)).one
  | (some l, r) :: ps, x, k, e => by
    have k' : ∀ pc ∈ ps, PcOk n pc := fun pc hp => k pc (List.mem_cons_of_mem _ hp)
    have e' : End ps := by
      obtain ⟨qs, r', h, f⟩ := e
      cases qs with
      | nil => simp at h
      | cons q qs =>
        simp only [List.cons_append, List.cons.injEq] at h
        exact ⟨qs, r', h.2, fun pc hp => f pc (List.mem_cons_of_mem _ hp)⟩
    by_cases hx : x < l
    · have e : rateAt ((some l, r) :: ps) x = r := by funext h; show (if x < l then r h else _) = _; rw [if_pos hx]
      rw [e]; exact (k (some l, r) (by simp)).one
    · have e : rateAt ((some l, r) :: ps) x = rateAt ps (x - l) := by funext h; show (if x < l then r h else _) = _; rw [if_neg hx]
      rw [e]; exact sn_rate k' e'
end Mx

namespace Mx
theorem Chn.pw : ∀ {rows : List Row}, Chn rows → rows.Pairwise (fun a b => a.1 < b.1)
  | [], _ => .nil
  | [a], _ => by simp
  | a :: b :: r, k => by
    have ih := Chn.pw (rows := b :: r) k.2
    rw [List.pairwise_cons]
    refine ⟨fun c hc => ?_, ih⟩
    rcases List.mem_cons.mp hc with z | z
    · rw [z]; exact k.1.1
    · have h1 := (List.pairwise_cons.mp ih).1 c z
      have h2 := k.1.1
      grind
theorem Chn.tail : ∀ {pre post : List Row} {a b : Row}, Chn (pre ++ a :: b :: post) → Nb a b
  | [], _, _, _, k => k.1
  | [c], _, _, _, k => k.2.1
  | c :: d :: pre, post, a, b, k => Chn.tail (pre := d :: pre) k.2
theorem row_line {rows pre post : List Row} {a : Row} {x : Rat} (c : Chn rows) (e : rows = pre ++ a :: post) (h1 : a.1 ≤ x) (h2 : ∀ b, post.head? = some b → x ≤ b.1) : payR rows x = a.2.1 + a.2.2 * (x - a.1) := by
  have pw := c.pw
  rw [e] at pw
  obtain ⟨p1, p2, p3⟩ := List.pairwise_append.mp pw
  have p4 := (List.pairwise_cons.mp p2).1
  have p5 := (List.pairwise_cons.mp p2).2
  have hpre : ∀ b ∈ pre, ¬ x < b.1 := fun b hb => by have := p3 b hb a (by simp); exact Rat.not_lt.mpr (by grind)
  have ea : upTo (pre ++ [a]) x = pre ++ [a] := by
    unfold upTo
    rw [List.filter_eq_self]
    intro b hb
    rcases List.mem_append.mp hb with z | z
    · simp [hpre b z]
    · rw [List.mem_singleton.mp z]; simp; exact Rat.not_lt.mpr h1
  cases post with
  | nil =>
    unfold payR
    rw [e, ea]
    simp
  | cons b post =>
    have hb := h2 b rfl
    have nb := Chn.tail (by rw [← e]; exact c)
    have hpost : ∀ d ∈ post, b.1 < d.1 := (List.pairwise_cons.mp p5).1
    by_cases hx : x < b.1
    · have : payR rows x = payR (pre ++ [a]) x := by
        rw [e, show pre ++ a :: b :: post = (pre ++ [a]) ++ (b :: post) by simp]
        exact payR_ext fun d hd => by
          rcases List.mem_cons.mp hd with z | z
          · rw [z]; exact hx
          · have := hpost d z; grind
      rw [this]
      unfold payR
      rw [ea]
      simp
    · have hxb : x = b.1 := by grind
      have eb : upTo (pre ++ [a] ++ [b]) x = pre ++ [a] ++ [b] := by
        unfold upTo at ea ⊢
        rw [List.filter_append, ea, List.filter_cons_of_pos (by simp; exact Rat.not_lt.mpr (by grind))]
        rfl
      have : payR rows x = payR (pre ++ [a] ++ [b]) x := by
        rw [e, show pre ++ a :: b :: post = (pre ++ [a] ++ [b]) ++ post by simp]
        exact payR_ext fun d hd => by have := hpost d hd; grind
      rw [this]
      unfold payR
      rw [eb]
      simp
      rw [hxb, nb.2.1]
      grind
end Mx
namespace Sx
open PySem PySem.Spec PyProof.Rows L2 Mx
theorem check_holder_ok {l : Lad} {h : Nat} (hh : h < l.n) : F_check_holder [ld l, .int (h : Int)] = .ok .none := by
  unfold F_check_holder
  simp only [B_check_holder]
  simp [is_between_ok, show (h : Int) ≤ (l.n : Int) - 1 by omega]
def rowsD (rows : List Mx.Row) : Dt := .tuple (rows.map rowD)
theorem bends_ok {l : Lad} {h : Nat} (k : l.Ok) (hh : h < l.n) : F_bends [ld l, .int (h : Int)] = .ok (rowsD (rowsL l.rs h)) := by
  unfold F_bends
  simp only [B_bends]
  simp [check_ladder_ok k, check_holder_ok hh, found_bends_ok k hh, rowsD]
theorem rate_after_ok {l : Lad} {h : Nat} {x : Rat} (k : l.Ok) (hh : h < l.n) (hx : Amt x) : F_rate_after [ld l, .int (h : Int), fr x] = .ok (fr (rateAt (lpcs l.rs) x h)) := by
  obtain ⟨b, hb, hr⟩ := bgo_rate (n := l.n) (h := h) (lpcs l.rs) [] 0 0 x (lpcs_ok k.ok) (lpcs_end k.ok k.ex) ⟨fun b hb => (by cases hb), fun b hb => (by cases hb)⟩ hx.nn
  rw [show x - 0 = x by grind] at hr
  have hb : (Mx.upTo (rowsL l.rs h) x).getLast? = some b := hb
  obtain ⟨pre, he⟩ := List.getLast?_eq_some_iff.mp hb
  have hc : ∀ y0 y1 y2 : Option SV, y2 = some (.d (fr x)) → cL (gN 3) cC_rate_after_1 cE_rate_after_1 [y0, y1, y2, none] ((rowsL l.rs h).map rowD) none = .ok ((Mx.upTo (rowsL l.rs h) x).map rowD, none) := fun y0 y1 y2 e => by
    subst e
    unfold Mx.upTo
    refine cL_ty rowD _ _ _ fun c hc => ⟨_, by simp; rfl, ?_, fun _ => by simp [cE_rate_after_1]⟩
    have := is_less_ok (a := x) (b := c.1) (hx.bd.mono (by decide)) ((rowsL_bd k h c hc).1.mono (by decide))
    simp [cC_rate_after_1, this]
  have hat : atI ((Mx.upTo (rowsL l.rs h) x).map rowD) (-1) = some (rowD b) := by rw [he, List.map_append]; exact atI_last
  have hl := rowsL_len k h
  unfold F_rate_after
  simp only [B_rate_after]
  generalize (Mx.upTo (rowsL l.rs h) x).map rowD = D at *
  simp [check_ladder_ok k, check_holder_ok hh, check_amount_ok hx, found_bends_ok k hh, wipeOk, show (rowsL l.rs h).length ≤ 100000 by omega, hc, hat, hr]
end Sx

namespace Mx
/-! the least amount that gives a goal -/
def leastR : List Row → Rat → Option Rat
  | [], _ => none
  | a :: rest, g => if ¬ (a.2.1 < g) then some a.1 else
    if a.2.2 ≠ 0 ∧ (∀ b, rest.head? = some b → ¬ (b.2.1 < g)) then some (a.1 + (g - a.2.1) / a.2.2) else leastR rest g
theorem div_nonneg {a b : Rat} (ha : 0 ≤ a) (hb : 0 < b) : 0 ≤ a / b := by
  rw [Rat.div_def]; exact Rat.mul_nonneg ha (Rat.le_of_lt (Rat.inv_pos.mpr hb))
/-- what is told of the rows behind: they are reached from a by its line -/
theorem leastR_spec {T : Rat → Rat} {rows : List Row} (ch : Chn rows) (hT : ∀ (pre : List Row) (a : Row) (post : List Row) (x : Rat), rows = pre ++ a :: post → a.1 ≤ x → (∀ b, post.head? = some b → x ≤ b.1) → T x = a.2.1 + a.2.2 * (x - a.1)) (hnn : ∀ a ∈ rows, 0 ≤ a.2.2) (g : Rat) :
    ∀ (rest pre : List Row), rows = pre ++ rest → (∀ a r, rest = a :: r → (a.1 = 0 ∨ (0 ≤ a.1 ∧ ∀ y, 0 ≤ y → y < a.1 → T y < g))) → rest ≠ [] →
      (∀ x, leastR rest g = some x → 0 ≤ x ∧ g ≤ T x ∧ (x ≠ 0 → ∀ y, 0 ≤ y → y < x → T y < g)) ∧
      (leastR rest g = none ↔ ∃ e, rows.getLast? = some e ∧ e.2.2 = 0 ∧ e.2.1 < g)
  | [], pre, e, _, hne => absurd rfl hne
  | a :: rest, pre, e, hlow, _ => by
    have ham : a ∈ rows := by rw [e]; simp
    have hr := hnn a ham
    have hTa : T a.1 = a.2.1 := by
      rw [hT pre a rest a.1 e Rat.le_refl fun b hb => ?_]
      · grind
      · cases rest with
        | nil => cases hb
        | cons c rest =>
          cases hb
          have := Chn.tail (by rw [← e]; exact ch)
          exact Rat.le_of_lt this.1
    have ha0 : 0 ≤ a.1 := by rcases hlow a rest rfl with z | z; rw [z]; exact Rat.le_refl; exact z.1
    have hbelow : a.1 ≠ 0 → ∀ y, 0 ≤ y → y < a.1 → T y < g := fun hz => by
      rcases hlow a rest rfl with z | z
      · exact absurd z hz
      · exact z.2
    have hlast : ∀ e', (a :: rest).getLast? = some e' → rows.getLast? = some e' := fun e' h => by
      rw [e, List.getLast?_append, h]; rfl
    unfold leastR
    by_cases h1 : a.2.1 < g
    · rw [if_neg (by simpa using h1)]
      by_cases h2 : a.2.2 ≠ 0 ∧ (∀ b, rest.head? = some b → ¬ (b.2.1 < g))
      · rw [if_pos h2]
        have hrp : 0 < a.2.2 := by have := h2.1; grind
        obtain ⟨q, hq⟩ : ∃ q, q = (g - a.2.1) / a.2.2 := ⟨_, rfl⟩
        have hqm : a.2.2 * q = g - a.2.1 := by rw [hq, Rat.mul_comm]; exact Rat.div_mul_cancel (by grind)
        have hq0 : 0 < q := by rw [hq]; exact div_pos (by grind) hrp
        rw [← hq]
        have hup : ∀ b, rest.head? = some b → a.1 + q ≤ b.1 := fun b hb => by
          cases rest with
          | nil => cases hb
          | cons c rest =>
            cases hb
            have nb := Chn.tail (by rw [← e]; exact ch)
            have hg := Rat.not_lt.mp (h2.2 b rfl)
            have : a.2.2 * q ≤ a.2.2 * (b.1 - a.1) := by rw [hqm]; have := nb.2.1; grind
            have := Rat.le_of_mul_le_mul_left this hrp
            grind
        have hTx : T (a.1 + q) = g := by
          rw [hT pre a rest (a.1 + q) e (by grind) hup, show a.1 + q - a.1 = q by grind, hqm]; grind
        refine ⟨fun x hx => ?_, fun hz => (by cases hz), fun hz => ?_⟩
        · cases hx
          refine ⟨by grind, by rw [hTx]; exact Rat.le_refl, fun _ y hy hyx => ?_⟩
          by_cases hya : y < a.1
          · by_cases hz : a.1 = 0
            · grind
            · exact hbelow hz y hy hya
          · have hya : a.1 ≤ y := Rat.not_lt.mp hya
            rw [hT pre a rest y e hya fun b hb => by have := hup b hb; grind]
            have : a.2.2 * (y - a.1) < a.2.2 * q := Rat.mul_lt_mul_of_pos_left (by grind) hrp
            grind
        · obtain ⟨e', h3, h4, h5⟩ := hz
          exfalso
          cases rest with
          | nil =>
            have := hlast a rfl
            rw [this] at h3
            cases h3
            exact h2.1 h4
          | cons c rest =>
            have hg := Rat.not_lt.mp (h2.2 c rfl)
            -- payments never fall behind c
            have hmono : ∀ (rest : List Row) (pre : List Row) (c : Row), rows = pre ++ c :: rest → g ≤ c.2.1 → ∀ e', (c :: rest).getLast? = some e' → g ≤ e'.2.1 := by
              intro rest
              induction rest with
              | nil => intro pre c _ hg e' he; simp at he; rw [← he]; exact hg
              | cons d rest ih =>
                intro pre c ee hg e' he
                have nb := Chn.tail (by rw [← ee]; exact ch)
                have hc := hnn c (by rw [ee]; simp)
                have : 0 ≤ c.2.2 * (d.1 - c.1) := Rat.mul_nonneg hc (by have := nb.1; grind)
                exact ih (pre ++ [c]) d (by rw [ee]; simp) (by have := nb.2.1; grind) e' (by rw [List.getLast?_cons_cons] at he; exact he)
            have h6 := hmono rest (pre ++ [a]) c (by rw [e]; simp) hg
            have h7 : (c :: rest).getLast? = some e' := by
              have : rows.getLast? = (c :: rest).getLast? := by
                rw [e, show pre ++ a :: c :: rest = (pre ++ [a]) ++ (c :: rest) by simp, List.getLast?_append]
                cases hq2 : (c :: rest).getLast? with
                | none => simp at hq2
                | some v => rfl
              rw [← this]; exact h3
            have := h6 e' h7
            grind
      · rw [if_neg h2]
        cases rest with
        | nil =>
          have hz : a.2.2 = 0 := by
            refine Classical.byContradiction fun z => h2 ⟨z, fun b hb => by cases hb⟩
          refine ⟨fun x hx => (by cases hx), fun _ => ⟨a, hlast a rfl, hz, h1⟩, fun _ => rfl⟩
        | cons c rest =>
          have nb := Chn.tail (by rw [← e]; exact ch)
          have hcl : c.1 ≠ 0 → ∀ y, 0 ≤ y → y < c.1 → T y < g := fun _ y hy hyc => by
            by_cases hya : y < a.1
            · by_cases hz : a.1 = 0
              · grind
              · exact hbelow hz y hy hya
            · have hya : a.1 ≤ y := Rat.not_lt.mp hya
              rw [hT pre a (c :: rest) y e hya fun b hb => by cases hb; grind]
              by_cases hz : a.2.2 = 0
              · rw [hz]; grind
              · have hcg : c.2.1 < g := by
                  refine Classical.byContradiction fun z => h2 ⟨hz, fun b hb => by cases hb; exact z⟩
                have : a.2.2 * (y - a.1) ≤ a.2.2 * (c.1 - a.1) := Rat.mul_le_mul_of_nonneg_left (by grind) hr
                have := nb.2.1
                grind
          refine leastR_spec ch hT hnn g (c :: rest) (pre ++ [a]) (by rw [e]; simp) (fun b r hb => ?_) (by simp)
          cases hb
          refine .inr ⟨by have := nb.1; grind, fun y hy hyc => hcl (by have := nb.1; grind) y hy hyc⟩
    · rw [if_pos h1]
      refine ⟨fun x hx => ?_, fun hz => (by cases hz), fun hz => ?_⟩
      · cases hx
        exact ⟨ha0, by rw [hTa]; exact Rat.not_lt.mp h1, hbelow⟩
      · obtain ⟨e', h3, h4, h5⟩ := hz
        exfalso
        have hmono : ∀ (rest : List Row) (pre : List Row) (c : Row), rows = pre ++ c :: rest → g ≤ c.2.1 → ∀ e', (c :: rest).getLast? = some e' → g ≤ e'.2.1 := by
          intro rest
          induction rest with
          | nil => intro pre c _ hg e' he; simp at he; rw [← he]; exact hg
          | cons d rest ih =>
            intro pre c ee hg e' he
            have nb := Chn.tail (by rw [← ee]; exact ch)
            have hc := hnn c (by rw [ee]; simp)
            have : 0 ≤ c.2.2 * (d.1 - c.1) := Rat.mul_nonneg hc (by have := nb.1; grind)
            exact ih (pre ++ [c]) d (by rw [ee]; simp) (by have := nb.2.1; grind) e' (by rw [List.getLast?_cons_cons] at he; exact he)
        have h6 := hmono rest pre a e (Rat.not_lt.mp h1)
        have h7 : (a :: rest).getLast? = some e' := by
          have : rows.getLast? = (a :: rest).getLast? := by
            rw [e, List.getLast?_append]
            cases hq2 : (a :: rest).getLast? with
            | none => simp at hq2
            | some v => rfl
          rw [← this]; exact h3
        have := h6 e' h7
        grind
end Mx

namespace Sx
open PySem PySem.Spec PyProof.Rows L2 Mx
/-! is_amount of any fraction -/
theorem is_amount_dec {q : Rat} (hq : Bd 4000 q) : ∃ b, F_is_amount [fr q] = .ok (.bool b) ∧ (b = true ↔ Amt q) := by
  by_cases hA : Amt q
  · exact ⟨true, is_amount_ok hA, by simp [hA]⟩
  · refine ⟨false, ?_, by simp [hA]⟩
    have hd : 0 < q.den := Nat.pos_of_ne_zero q.den_nz
    unfold F_is_amount
    simp only [B_is_amount]
    by_cases h1 : q.den ≤ 1000
    · have hm : mulOk 1000000 (q.den : Int) = true := mulOk_of (j := 20) (k := 4000) (by decide) (natAbs_lt hq.2) (by decide)
      have h2 : ¬ (0 ≤ q.num ∧ q.num ≤ 1000000 * (q.den : Int)) := fun z => hA ⟨Rat.num_nonneg.mp z.1, by
        rw [Rat.le_iff]
        simpa using z.2, h1⟩
      by_cases h3 : 0 ≤ q.num
      · have h4 : ¬ q.num ≤ 1000000 * (q.den : Int) := fun z => h2 ⟨h3, z⟩
        simp [is_between_ok, show (1 : Int) ≤ (q.den : Int) by omega, show (q.den : Int) ≤ 1000 by omega, hm, h4]
      · simp [is_between_ok, show (1 : Int) ≤ (q.den : Int) by omega, show (q.den : Int) ≤ 1000 by omega, hm, h3]
        try (simp [show ¬ 0 ≤ q from fun z => h3 (Rat.num_nonneg.mpr z)])
    · simp [is_between_ok, show (1 : Int) ≤ (q.den : Int) by omega, show ¬ (q.den : Int) ≤ 1000 by omega]
def optD : Option Rat → Dt
  | none => .none
  | some x => fr x
end Sx

namespace Sx
open PySem PySem.Spec PyProof.Rows L2 Mx
theorem ixl_rows {rows pre post : List Mx.Row} {a : Mx.Row} {i : Nat} (e : rows = pre ++ a :: post) (hi : pre.length = i) : atI (rows.map rowD) (i : Int) = some (rowD a) := by
  rw [e, atI_nat (by simp; omega), List.map_append, List.getElem?_append_right (by simp; omega)]
  simp [hi]
theorem fL_c2 {i j : Nat} {body : SS} {d1 d2 : Dt} {ds : List Dt} {ρ : Sl} {W : Tw} (hi : i < ρ.length) (hj : j < ρ.length) : fL (gTu 2 (gsCons (gN i) (gsCons (gN j) gsNil))) body (.tuple [d1, d2] :: ds) ρ W =
    match body ((ρ.set i (some (.d d1))).set j (some (.d d2))) W with | .nx ρ2 W2 => fL (gTu 2 (gsCons (gN i) (gsCons (gN j) gsNil))) body ds ρ2 W2 | r => r := by
  simp [hi, hj] <;> rfl
theorem least_loop {x0 x1 : Option SV} {g : Rat} {rows : List Mx.Row} (hrb : ∀ b ∈ rows, Rb 24 b) (hg : Bd 30 g) (hnn : ∀ a ∈ rows, 0 ≤ a.2.2) : ∀ (rest pre : List Mx.Row), rows = pre ++ rest → ∀ y4 y5 y6 : Option SV,
    (∀ x, leastR rest g = some x → fL (gTu 2 (gsCons (gN 4) (gsCons (gN 5) gsNil))) lB_least_amount_1 (enumD pre.length (rest.map rowD)) [x0, x1, some (.d (fr g)), some (.d (.list (rows.map rowD))), y4, y5, y6] none = .rt (.d (fr x)) none) ∧
    (leastR rest g = none → ∃ ρ', fL (gTu 2 (gsCons (gN 4) (gsCons (gN 5) gsNil))) lB_least_amount_1 (enumD pre.length (rest.map rowD)) [x0, x1, some (.d (fr g)), some (.d (.list (rows.map rowD))), y4, y5, y6] none = .nx ρ' none)
  | [], pre, e, y4, y5, y6 => ⟨fun x h => (by cases h), fun _ => ⟨_, rfl⟩⟩
  | a :: rest, pre, e, y4, y5, y6 => by
    have ha := hrb a (by rw [e]; simp)
    have hr0 := hnn a (by rw [e]; simp)
    have p1 := is_less_ok (a := a.2.1) (b := g) (ha.2.1.mono (by decide)) (hg.mono (by decide))
    have eE : enumD pre.length ((a :: rest).map rowD) = .tuple [.int (pre.length : Int), rowD a] :: enumD (pre ++ [a]).length (rest.map rowD) := by rw [List.length_append]; rfl
    rw [eE]
    rw [fL_c2 (by simp) (by simp)]
    simp only [List.set_cons_zero, List.set_cons_succ]
    have ih := least_loop (x0 := x0) (x1 := x1) hrb hg hnn rest (pre ++ [a]) (by rw [e]; simp) (some (.d (.int (pre.length : Int)))) (some (.d (rowD a)))
    have hlr : rows.length = pre.length + 1 + rest.length := by rw [e, List.length_append, List.length_cons]; omega
    unfold leastR
    by_cases h1 : a.2.1 < g
    · rw [if_neg (by simpa using h1)]
      rw [decide_eq_true h1] at p1
      have hne := neD_fr0 (a := a.2.2)
      by_cases hz : a.2.2 = 0
      · rw [if_neg (fun z => z.1 hz)]
        rw [decide_eq_true hz] at hne
        generalize hD : (PyData.list (rows.map rowD)) = D at *
        have hlen : lenD [D] = some (.int rows.length) := by rw [← hD, lenD_l, List.length_map]
        have eb : lB_least_amount_1 [x0, x1, some (.d (fr g)), some (.d D), some (.d (.int (pre.length : Int))), some (.d (rowD a)), y6] none = .nx [x0, x1, some (.d (fr g)), some (.d D), some (.d (.int (pre.length : Int))), some (.d (rowD a)), some (.d (.bool ((pre.length : Int) + 1 == (rows.length : Int))))] none := by
          simp [lB_least_amount_1, p1, hne, hlen]
        rw [eb]
        exact ih _
      · rw [decide_eq_false hz] at hne
        have hrp : 0 < a.2.2 := by grind
        have b1 := hg.sub ha.2.1
        have p2 := minus_ok (a := g) (b := a.2.1) (hg.mono (by decide)) (ha.2.1.mono (by decide))
        have p3 := quotient_ok (a := g - a.2.1) (b := a.2.2) (b1.mono (by decide)) (ha.2.2.mono (by decide)) hrp
        have b2 := b1.div ha.2.2 (by decide)
        have p4 := plus_ok (a := a.1) (b := (g - a.2.1) / a.2.2) (ha.1.mono (by decide)) (b2.mono (by decide))
        cases rest with
        | nil =>
          rw [if_pos ⟨hz, fun b hb => by cases hb⟩]
          generalize hD : (PyData.list (rows.map rowD)) = D at *
          have hlen : lenD [D] = some (.int ((pre.length : Int) + 1)) := by rw [← hD, lenD_l, List.length_map, hlr]; simp
          refine ⟨fun x hx => ?_, fun z => (by cases z)⟩
          cases hx
          simp [lB_least_amount_1, p1, hne, hlen, p2, p3, p4]
        | cons b rest =>
          have hb := hrb b (by rw [e]; simp)
          have p5 := is_less_ok (a := b.2.1) (b := g) (hb.2.1.mono (by decide)) (hg.mono (by decide))
          have hix := ixl_rows (rows := rows) (pre := pre ++ [a]) (a := b) (post := rest) (i := pre.length + 1) (by rw [e]; simp) (by simp)
          have hix : ixD (.list (rows.map rowD)) (.int ((pre.length : Int) + 1)) = some (rowD b) := hix
          generalize hD : (PyData.list (rows.map rowD)) = D at *
          have hlen : lenD [D] = some (.int rows.length) := by rw [← hD, lenD_l, List.length_map]
          have hls : ((pre.length : Int) + 1 == (rows.length : Int)) = false := by rw [hlr]; simp; omega
          by_cases h5 : b.2.1 < g
          · rw [if_neg (fun z => z.2 b rfl h5)]
            rw [decide_eq_true h5] at p5
            have eb : lB_least_amount_1 [x0, x1, some (.d (fr g)), some (.d D), some (.d (.int (pre.length : Int))), some (.d (rowD a)), y6] none = .nx [x0, x1, some (.d (fr g)), some (.d D), some (.d (.int (pre.length : Int))), some (.d (rowD a)), some (.d (.bool false))] none := by
              simp [lB_least_amount_1, p1, hne, hlen, hls, hix, p5]
            rw [eb]
            exact ih _
          · rw [if_pos ⟨hz, fun c hc => by cases hc; exact h5⟩]
            rw [decide_eq_false h5] at p5
            refine ⟨fun x hx => ?_, fun z => (by cases z)⟩
            cases hx
            simp [lB_least_amount_1, p1, hne, hlen, hls, hix, p5, p2, p3, p4]
    · rw [if_pos h1]
      rw [decide_eq_false h1] at p1
      refine ⟨fun x hx => ?_, fun z => (by cases z)⟩
      cases hx
      simp [lB_least_amount_1, p1]
theorem rows_nn {l : Lad} (k : l.Ok) (h : Nat) : ∀ a ∈ rowsL l.rs h, 0 ≤ a.2.2 := by
  have key : ∀ (ps : List Pc) (acc : List Mx.Row) (s p : Rat), (∀ pc ∈ ps, PcOk l.n pc) → (∀ a ∈ acc, 0 ≤ a.2.2) → ∀ a ∈ bgo h ps acc s p, 0 ≤ a.2.2 := by
    intro ps
    induction ps with
    | nil => intro acc s p _ hacc; exact hacc
    | cons q ps ih =>
      intro acc s p hok hacc
      obtain ⟨o, r⟩ := q
      have hq := hok (o, r) (by simp)
      have hadd : ∀ a ∈ addR acc s p (r h), 0 ≤ a.2.2 := by
        intro a ha
        unfold addR at ha
        split at ha
        · rcases List.mem_append.mp ha with z | z
          · exact hacc a z
          · rw [List.mem_singleton.mp z]; exact hq.nn h
        · split at ha
          · exact hacc a ha
          · rcases List.mem_append.mp ha with z | z
            · exact hacc a z
            · rw [List.mem_singleton.mp z]; exact hq.nn h
      cases o with
      | none => exact ih _ _ _ (fun pc hp => hok pc (List.mem_cons_of_mem _ hp)) hadd
      | some l => exact ih _ _ _ (fun pc hp => hok pc (List.mem_cons_of_mem _ hp)) hadd
  exact key _ _ _ _ (lpcs_ok k.ok) fun a ha => by cases ha
theorem least_amount_ok {l : Lad} {h : Nat} {g : Rat} (k : l.Ok) (hh : h < l.n) (hg : Amt g) : F_least_amount [ld l, .int (h : Int), fr g] = .ok (optD (leastR (rowsL l.rs h) g)) := by
  have hl := rowsL_len k h
  have hlp := least_loop (x0 := some (.d (ld l))) (x1 := some (.d (.int (h : Int)))) (rowsL_bd k h) hg.bd (rows_nn k h) (rowsL l.rs h) [] rfl none none none
  unfold F_least_amount
  simp only [B_least_amount]
  cases hc : leastR (rowsL l.rs h) g with
  | none =>
    obtain ⟨ρ', h2⟩ := hlp.2 hc
    generalize hD : (rowsL l.rs h).map rowD = D at *
    have h2 : fL (gTu 2 (gsCons (gN 4) (gsCons (gN 5) gsNil))) lB_least_amount_1 (enumD 0 D) _ none = _ := h2
    simp [check_ladder_ok k, check_holder_ok hh, is_amount_ok hg, found_bends_ok k hh, hD, h2, optD]
  | some x =>
    have h2 := hlp.1 x hc
    generalize hD : (rowsL l.rs h).map rowD = D at *
    have h2 : fL (gTu 2 (gsCons (gN 4) (gsCons (gN 5) gsNil))) lB_least_amount_1 (enumD 0 D) _ none = _ := h2
    simp [check_ladder_ok k, check_holder_ok hh, is_amount_ok hg, found_bends_ok k hh, hD, h2, optD]
/-- the least amount, and what it is -/
theorem least_spec {l : Lad} {h : Nat} (k : l.Ok) (g : Rat) :
    (∀ x, leastR (rowsL l.rs h) g = some x → 0 ≤ x ∧ g ≤ l.T x h ∧ (x ≠ 0 → ∀ y, 0 ≤ y → y < x → l.T y h < g)) ∧
    (leastR (rowsL l.rs h) g = none ↔ ∃ e, (rowsL l.rs h).getLast? = some e ∧ e.2.2 = 0 ∧ e.2.1 < g) := by
  have ch := rows_chain (h := h) k.ok k.ex
  obtain ⟨r0, m0, hf⟩ := rows_first (h := h) k.ok k.ex
  have hpos : ∀ b ∈ rowsL l.rs h, 0 ≤ b.1 := fun b hb => by
    have pw := ch.pw
    rw [hf] at pw hb
    rcases List.mem_cons.mp hb with z | z
    · rw [z]; exact Rat.le_refl
    · have := (List.pairwise_cons.mp pw).1 b z; simp only at this; grind
  refine leastR_spec (T := fun x => l.T x h) ch (fun pre a post x e h1 h2 => ?_) (rows_nn k h) g (rowsL l.rs h) [] rfl (fun a r e => ?_) (by rw [hf]; simp)
  · have ha := hpos a (by rw [e]; simp)
    have := rows_pay (h := h) k.ok k.ex (x := x) (by grind)
    show ev (lpcs l.rs) x h = _
    rw [← this]
    exact row_line ch e h1 h2
  · rw [hf] at e
    cases e
    exact .inl rfl
/-- few bits of a least amount -/
theorem leastR_bd {g : Rat} (hg : Bd 30 g) : ∀ (rows : List Mx.Row), (∀ b ∈ rows, Rb 24 b) → ∀ x, leastR rows g = some x → Bd 100 x
  | [], _, x, h => by cases h
  | a :: rest, hb, x, h => by
    have ha := hb a (by simp)
    unfold leastR at h
    split at h
    · cases h; exact ha.1.mono (by decide)
    · split at h
      · cases h
        exact (ha.1.add ((hg.sub ha.2.1).div ha.2.2 (by decide))).mono (by decide)
      · exact leastR_bd hg rest (fun b hb' => hb b (List.mem_cons_of_mem _ hb')) x h
end Sx

namespace Mx
theorem sn_nn {n : Nat} {f : Nat → Rat} (h : ∀ j, 0 ≤ f j) : 0 ≤ sn n f := by
  induction n with
  | zero => exact Rat.le_refl
  | succ n ih => rw [sn_succ]; have := h n; grind
theorem sn_single {n k : Nat} {f : Nat → Rat} (hk : k < n) (h : ∀ j, 0 ≤ f j) : f k ≤ sn n f := by
  induction n with
  | zero => omega
  | succ n ih =>
    rw [sn_succ]
    by_cases e : k = n
    · subst e; have := sn_nn (n := k) h; grind
    · have := ih (by omega); have := h n; grind
/-- no payment grows faster than the amount -/
theorem Lad.Ok.lip {l : Lad} (k : l.Ok) {x y : Rat} (hx : 0 ≤ x) (hy : x ≤ y) {h : Nat} (hh : h < l.n) : l.T y h - l.T x h ≤ y - x := by
  have h1 := k.sum hx
  have h2 := k.sum (x := y) (by grind)
  have h3 : sn l.n (fun j => l.T y j - l.T x j) = y - x := by
    have e1 : sn l.n (fun j => (l.T y j - l.T x j) + l.T x j) = sn l.n (fun j => l.T y j - l.T x j) + sn l.n (l.T x) := sn_add
    have e2 : sn l.n (fun j => (l.T y j - l.T x j) + l.T x j) = sn l.n (l.T y) := sn_congr fun j _ => by grind
    grind
  have h4 := sn_single (f := fun j => l.T y j - l.T x j) hh fun j => by have := k.mono hx hy j; grind
  grind
theorem least_eq {l : Lad} (k : l.Ok) {x g : Rat} {h : Nat} (hh : h < l.n) (hx : 0 ≤ x) (hg : g ≤ l.T x h) (h0 : x ≠ 0) (hlt : ∀ y, 0 ≤ y → y < x → l.T y h < g) : l.T x h = g := by
  refine Classical.byContradiction fun hne => ?_
  have hd : 0 < l.T x h - g := by grind
  by_cases hc : l.T x h - g ≤ x
  · have h1 := hlt (x - (l.T x h - g)) (by grind) (by grind)
    have h2 := k.lip (x := x - (l.T x h - g)) (y := x) (by grind) (by grind) hh
    grind
  · have h1 := hlt 0 Rat.le_refl (by grind)
    have h2 := k.lip (x := 0) (y := x) Rat.le_refl hx hh
    grind
end Mx
namespace Sx
open PySem PySem.Spec PyProof.Rows L2 Mx
@[simp] theorem shaped_bool {b : Bool} : SeqAt.shaped (.bool b) = true := shaped_flt (k := 0) rfl (by decide)
theorem eqv_bool {a b : Bool} : PyData.eqv (.bool a) (.bool b) = (a == b) := by cases a <;> cases b <;> rfl
@[simp] theorem eqD_b {a b : Bool} : eqD (.bool a) (.bool b) = some (.bool (a == b)) := by
  cases a <;> cases b <;> rfl
@[simp] theorem neD_b {a b : Bool} : neD (.bool a) (.bool b) = some (.bool (!(a == b))) := by
  cases a <;> cases b <;> rfl
@[simp] theorem addD_ll {a b : List Dt} : addD (.list a) (.list b) = if a.length + b.length ≤ 100000 then some (.list (a ++ b)) else none := rfl
@[simp] theorem addD_tt {a b : List Dt} : addD (.tuple a) (.tuple b) = if a.length + b.length ≤ 100000 then some (.tuple (a ++ b)) else none := rfl
@[simp] theorem isD_opt {o : Option Rat} : isD (optD o) .none = some (.bool o.isNone) := by cases o <;> rfl
@[simp] theorem isNotD_opt {o : Option Rat} : isNotD (optD o) .none = some (.bool o.isSome) := by cases o <;> rfl
end Sx

namespace Mx
/-! signs of a difference, directly after an amount -/
def sgn (q : Rat) : Int := if 0 < q then 1 else if q < 0 then -1 else 0
theorem sgn_pos {q : Rat} (h : 0 < q) : sgn q = 1 := by unfold sgn; rw [if_pos h]
theorem sgn_neg {q : Rat} (h : q < 0) : sgn q = -1 := by unfold sgn; rw [if_neg (by grind), if_pos h]
theorem sgn_zero : sgn 0 = 0 := by decide
theorem sgn_cases (q : Rat) : (0 < q ∧ sgn q = 1) ∨ (q < 0 ∧ sgn q = -1) ∨ (q = 0 ∧ sgn q = 0) := by
  by_cases h : 0 < q
  · exact .inl ⟨h, sgn_pos h⟩
  · by_cases h' : q < 0
    · exact .inr (.inl ⟨h', sgn_neg h'⟩)
    · have : q = 0 := by grind
      exact .inr (.inr ⟨this, by rw [this]; exact sgn_zero⟩)
theorem sgn_eq0 {q : Rat} : sgn q = 0 ↔ q = 0 := by
  rcases sgn_cases q with ⟨h, e⟩ | ⟨h, e⟩ | ⟨h, e⟩
  · rw [e]; exact ⟨fun z => by omega, fun z => by rw [z] at h; exact absurd h (by decide)⟩
  · rw [e]; exact ⟨fun z => by omega, fun z => by rw [z] at h; exact absurd h (by decide)⟩
  · rw [e]; exact ⟨fun _ => h, fun _ => rfl⟩
theorem sgn_eq1 {q : Rat} : sgn q = 1 ↔ 0 < q := by
  rcases sgn_cases q with ⟨h, e⟩ | ⟨h, e⟩ | ⟨h, e⟩
  · rw [e]; exact ⟨fun _ => h, fun _ => rfl⟩
  · rw [e]; exact ⟨fun z => by omega, fun z => by grind⟩
  · rw [e]; exact ⟨fun z => by omega, fun z => by grind⟩
theorem sgn_eqm {q : Rat} : sgn q = -1 ↔ q < 0 := by
  rcases sgn_cases q with ⟨h, e⟩ | ⟨h, e⟩ | ⟨h, e⟩
  · rw [e]; exact ⟨fun z => by omega, fun z => by grind⟩
  · rw [e]; exact ⟨fun _ => h, fun _ => rfl⟩
  · rw [e]; exact ⟨fun z => by omega, fun z => by grind⟩
theorem sgn_opp (q : Rat) : sgn (-q) = - sgn q := by
  rcases sgn_cases q with ⟨h, e⟩ | ⟨h, e⟩ | ⟨h, e⟩
  · rw [e, sgn_neg (by grind)]
  · rw [e, sgn_pos (by grind)]; rfl
  · rw [h]; decide
def sg2 (g s : Rat) : Int := if g ≠ 0 then sgn g else sgn s
def ab (q : Rat) : Rat := if q < 0 then -q else q
theorem ab_p {q : Rat} (h : 0 < q) : ab q = q := by unfold ab; rw [if_neg (by grind)]
theorem ab_n {q : Rat} (h : q < 0) : ab q = -q := by unfold ab; rw [if_pos h]
theorem ab_pos {q : Rat} (h : q ≠ 0) : 0 < ab q := by unfold ab; split <;> grind
def ltO (x : Rat) : Option Rat → Prop
  | none => True
  | some b => x < b
instance (x : Rat) (o : Option Rat) : Decidable (ltO x o) := by unfold ltO; cases o <;> exact inferInstance
/-- the sign directly after an amount -/
def RS (D : Rat → Rat) (x : Rat) (s : Int) : Prop := ∃ e, x < e ∧ ∀ y, x < y → y < e → sgn (D y) = s
theorem mid {a b : Rat} (h : a < b) : a < (a + b) / 2 ∧ (a + b) / 2 < b := by
  have e : (a + b) / 2 = (a + b) * (1 / 2) := by grind
  constructor <;> grind
theorem RS.uniq {D : Rat → Rat} {x : Rat} {s t : Int} (h : RS D x s) (k : RS D x t) : s = t := by
  obtain ⟨e, e1, e2⟩ := h
  obtain ⟨f, f1, f2⟩ := k
  by_cases hc : e ≤ f
  · obtain ⟨m1, m2⟩ := mid e1
    rw [← e2 _ m1 m2, f2 _ m1 (by grind)]
  · obtain ⟨m1, m2⟩ := mid f1
    rw [← f2 _ m1 m2, e2 _ m1 (by grind)]
theorem RS.opp {D : Rat → Rat} {x : Rat} {s : Int} (h : RS D x s) : RS (fun y => - D y) x (-s) := by
  obtain ⟨e, e1, e2⟩ := h
  exact ⟨e, e1, fun y h1 h2 => by rw [sgn_opp, e2 y h1 h2]⟩
theorem RS.congr {D E : Rat → Rat} {x : Rat} {s : Int} (h : RS D x s) (hx : 0 ≤ x) (k : ∀ y, 0 ≤ y → E y = D y) : RS E x s := by
  obtain ⟨e, e1, e2⟩ := h
  exact ⟨e, e1, fun y h1 h2 => by rw [k y (by grind), e2 y h1 h2]⟩
theorem mul_nn {a b : Rat} (ha : 0 ≤ a) (hb : 0 ≤ b) : 0 ≤ a * b := Rat.mul_nonneg ha hb
theorem mul_pp {a b : Rat} (ha : 0 < a) (hb : 0 < b) : 0 < a * b := Rat.mul_pos ha hb
/-- of a line -/
theorem RS_lin {D : Rat → Rat} {x σ : Rat} {n : Option Rat} (hn : ltO x n) (h : ∀ y, x ≤ y → ltO y n → D y = D x + σ * (y - x)) : RS D x (sg2 (D x) σ) := by
  obtain ⟨e0, h0, h1⟩ : ∃ e0, x < e0 ∧ ∀ y, y < e0 → ltO y n := by
    cases n with
    | none => exact ⟨x + 1, by grind, fun _ _ => trivial⟩
    | some b => exact ⟨b, hn, fun y hy => hy⟩
  unfold sg2
  by_cases hc : D x ≠ 0
  · rw [if_pos hc]
    obtain ⟨w, hw⟩ : ∃ w, w = (if 0 < σ then σ else -σ) + 1 := ⟨_, rfl⟩
    have hw1 : 1 ≤ w := by rw [hw]; split <;> grind
    have hw2 : σ ≤ w ∧ -w ≤ σ := by rw [hw]; split <;> constructor <;> grind
    obtain ⟨c, hcd⟩ : ∃ c, c = (if 0 < D x then D x else - D x) := ⟨_, rfl⟩
    have hcp : 0 < c := by rw [hcd]; split <;> grind
    obtain ⟨q, hq⟩ : ∃ q, q = c / w := ⟨_, rfl⟩
    have hq0 : 0 < q := by rw [hq]; exact div_pos hcp (by grind)
    have hqw : q * w = c := by rw [hq]; exact Rat.div_mul_cancel (by grind)
    obtain ⟨e, he1, he2, he3⟩ : ∃ e, x < e ∧ e ≤ e0 ∧ e ≤ x + q := by
      by_cases z : e0 ≤ x + q
      · exact ⟨e0, h0, by grind, z⟩
      · exact ⟨x + q, by grind, by grind, by grind⟩
    refine ⟨e, he1, fun y hy1 hy2 => ?_⟩
    rw [h y (by grind) (h1 y (by grind))]
    have hyx : 0 < y - x := by grind
    have hyq : y - x < q := by grind
    have k1 : w * (y - x) < w * q := Rat.mul_lt_mul_of_pos_left hyq (by grind)
    have k2 : σ * (y - x) ≤ w * (y - x) := Rat.mul_le_mul_of_nonneg_right hw2.1 (by grind)
    have k3 : (-w) * (y - x) ≤ σ * (y - x) := Rat.mul_le_mul_of_nonneg_right hw2.2 (by grind)
    rcases sgn_cases (D x) with ⟨a1, a2⟩ | ⟨a1, a2⟩ | ⟨a1, a2⟩
    · rw [a2]; rw [if_pos a1] at hcd
      exact sgn_pos (by grind)
    · rw [a2]; rw [if_neg (by grind)] at hcd
      exact sgn_neg (by grind)
    · exact absurd a1 hc
  · have hc : D x = 0 := by simpa using hc
    rw [if_neg (by simpa using hc)]
    refine ⟨e0, h0, fun y hy1 hy2 => ?_⟩
    rw [h y (by grind) (h1 y hy2), hc]
    have hyx : 0 < y - x := by grind
    rcases sgn_cases σ with ⟨a1, a2⟩ | ⟨a1, a2⟩ | ⟨a1, a2⟩
    · rw [a2]; have := mul_pp a1 hyx; exact sgn_pos (by grind)
    · rw [a2]; have := mul_pp (a := -σ) (by grind) hyx; exact sgn_neg (by grind)
    · rw [a2, a1]; exact sgn_eq0.mpr (by grind)
/-! lists of signs -/
abbrev SRow := Rat × Int
def NbS (D : Rat → Rat) (p q : SRow) : Prop := p.1 < q.1 ∧ p.2 ≠ q.2 ∧ ∀ x, p.1 ≤ x → x < q.1 → RS D x p.2
def ChS (D : Rat → Rat) : List SRow → Prop
  | [] => True
  | [_] => True
  | a :: b :: r => NbS D a b ∧ ChS D (b :: r)
theorem ChS.snoc {D : Rat → Rat} : ∀ {rows : List SRow} {b : SRow}, ChS D rows → (∀ a, rows.getLast? = some a → NbS D a b) → ChS D (rows ++ [b])
  | [], b, _, _ => trivial
  | [a], b, _, h => ⟨h a rfl, trivial⟩
  | a :: c :: r, b, k, h => ⟨k.1, ChS.snoc (rows := c :: r) k.2 fun x hx => h x (by rw [List.getLast?_cons_cons]; exact hx)⟩
structure SInv (D : Rat → Rat) (found : List SRow) (B : Option Rat) : Prop where
  ch : ChS D found
  fst : ∃ s r, found = (0, s) :: r
  lst : ∀ p, found.getLast? = some p → ltO p.1 B ∧ ∀ x, p.1 ≤ x → ltO x B → RS D x p.2
def addS (found : List SRow) (row : SRow) : List SRow := match found.getLast? with
  | none => found ++ [row]
  | some b => if b.2 = row.2 then found else found ++ [row]
theorem addS_inv {D : Rat → Rat} {found : List SRow} {b : Rat} {t : Int} {n : Option Rat} (h : SInv D found (some b) ∨ (found = [] ∧ b = 0)) (hb : ltO b n) (k : ∀ x, b ≤ x → ltO x n → RS D x t) : SInv D (addS found (b, t)) n := by
  rcases h with i | ⟨rfl, rfl⟩
  · obtain ⟨s, r, hf⟩ := i.fst
    unfold addS
    cases hl : found.getLast? with
    | none => rw [hf] at hl; simp at hl
    | some p =>
      simp only
      obtain ⟨l1, l2⟩ := i.lst p hl
      have l1 : p.1 < b := l1
      split
      · rename_i he
        refine ⟨i.ch, i.fst, fun q hq => ?_⟩
        rw [hl] at hq
        cases hq
        refine ⟨?_, fun x hx hxn => ?_⟩
        · cases n with
          | none => trivial
          | some c => have hb : b < c := hb; show p.1 < c; grind
        · by_cases hxb : x < b
          · exact l2 x hx hxb
          · rw [he]; exact k x (Rat.not_lt.mp hxb) hxn
      · rename_i hne
        refine ⟨i.ch.snoc fun a ha => ?_, ⟨s, r ++ [(b, t)], by rw [hf]; rfl⟩, fun q hq => ?_⟩
        · rw [hl] at ha
          cases ha
          exact ⟨l1, hne, l2⟩
        · simp at hq
          subst hq
          exact ⟨hb, k⟩
  · exact ⟨trivial, ⟨t, [], rfl⟩, fun q hq => by
      have : q = (0, t) := by unfold addS at hq; simpa using hq.symm
      subst this
      exact ⟨hb, k⟩⟩
/-- what is said of one start -/
def segR (s g σ : Rat) (n : Option Rat) : List SRow :=
  if sgn g * sgn σ < 0 ∧ ltO (s + ab g / ab σ) n then [(s, sg2 g σ), (s + ab g / ab σ, sgn σ)] else [(s, sg2 g σ)]
theorem seg_inv {D : Rat → Rat} {found : List SRow} {s σ : Rat} {n : Option Rat} (h : SInv D found (some s) ∨ (found = [] ∧ s = 0)) (hs : ltO s n) (hD : ∀ y, s ≤ y → ltO y n → D y = D s + σ * (y - s)) :
    SInv D ((segR s (D s) σ n).foldl addS found) n := by
  have hrs : ∀ x, s ≤ x → ltO x n → RS D x (sg2 (D x) σ) := fun x hx hxn => RS_lin hxn fun y hy hyn => by
    rw [hD y (by grind) hyn, hD x hx hxn]; grind
  unfold segR
  by_cases hc : sgn (D s) * sgn σ < 0
  · -- opposite signs
    obtain ⟨z, hz⟩ : ∃ z, z = s + ab (D s) / ab σ := ⟨_, rfl⟩
    rw [← hz]
    have hσ : σ ≠ 0 := fun e => by rw [e, sgn_zero] at hc; omega
    have hg : D s ≠ 0 := fun e => by rw [e, sgn_zero] at hc; omega
    have hab : 0 < ab σ := ab_pos hσ
    have hag : 0 < ab (D s) := ab_pos hg
    have hzm : ab σ * (z - s) = ab (D s) := by
      rw [hz, show s + ab (D s) / ab σ - s = ab (D s) / ab σ by grind, Rat.mul_comm]; exact Rat.div_mul_cancel (by grind)
    have hsz : s < z := by have := div_pos hag hab; grind
    have hlow : ∀ x, s ≤ x → x < z → sg2 (D s + σ * (x - s)) σ = sg2 (D s) σ := fun x h1 h2 => by
      have hx : ab σ * (x - s) < ab σ * (z - s) := Rat.mul_lt_mul_of_pos_left (by grind) hab
      unfold sg2
      rw [if_pos hg]
      rcases sgn_cases (D s) with ⟨a1, a2⟩ | ⟨a1, a2⟩ | ⟨a1, a2⟩
      · rw [ab_p a1] at hzm
        rcases sgn_cases σ with ⟨b1, b2⟩ | ⟨b1, b2⟩ | ⟨b1, b2⟩
        · rw [a2, b2] at hc; omega
        · rw [ab_n b1] at hzm hx
          have : 0 < D s + σ * (x - s) := by grind
          rw [if_pos (by grind), a2, sgn_pos this]
        · exact absurd b1 hσ
      · rw [ab_n a1] at hzm
        rcases sgn_cases σ with ⟨b1, b2⟩ | ⟨b1, b2⟩ | ⟨b1, b2⟩
        · rw [ab_p b1] at hzm hx
          have : D s + σ * (x - s) < 0 := by grind
          rw [if_pos (by grind), a2, sgn_neg this]
        · rw [a2, b2] at hc; omega
        · exact absurd b1 hσ
      · exact absurd a1 hg
    have hhigh : ∀ x, z ≤ x → sg2 (D s + σ * (x - s)) σ = sgn σ := fun x h1 => by
      have hx : ab σ * (z - s) ≤ ab σ * (x - s) := Rat.mul_le_mul_of_nonneg_left (by grind) (by grind)
      unfold sg2
      split
      · rename_i hne
        rcases sgn_cases (D s) with ⟨a1, a2⟩ | ⟨a1, a2⟩ | ⟨a1, a2⟩
        · rw [ab_p a1] at hzm
          rcases sgn_cases σ with ⟨b1, b2⟩ | ⟨b1, b2⟩ | ⟨b1, b2⟩
          · rw [a2, b2] at hc; omega
          · rw [ab_n b1] at hzm hx
            rw [b2]; exact sgn_neg (by grind)
          · exact absurd b1 hσ
        · rw [ab_n a1] at hzm
          rcases sgn_cases σ with ⟨b1, b2⟩ | ⟨b1, b2⟩ | ⟨b1, b2⟩
          · rw [ab_p b1] at hzm hx
            rw [b2]; exact sgn_pos (by grind)
          · rw [a2, b2] at hc; omega
          · exact absurd b1 hσ
        · exact absurd a1 hg
      · rfl
    by_cases hzn : ltO z n
    · rw [if_pos ⟨hc, hzn⟩]
      have i1 : SInv D (addS found (s, sg2 (D s) σ)) (some z) := addS_inv h hsz fun x h1 h2 => by
        have h2 : x < z := h2
        have hxn : ltO x n := by
          cases n with
          | none => trivial
          | some c => have hzn : z < c := hzn; show x < c; grind
        have := hrs x h1 hxn
        rw [hD x h1 hxn, hlow x h1 h2] at this
        exact this
      exact addS_inv (.inl i1) hzn fun x h1 h2 => by
        have := hrs x (by grind) h2
        rw [hD x (by grind) h2, hhigh x h1] at this
        exact this
    · rw [if_neg fun z => hzn z.2]
      exact addS_inv h hs fun x h1 h2 => by
        have hxz : x < z := by
          cases n with
          | none => exact absurd trivial hzn
          | some c =>
            have hzn : ¬ z < c := hzn
            have h2 : x < c := h2
            grind
        have := hrs x h1 h2
        rw [hD x h1 h2, hlow x h1 hxz] at this
        exact this
  · rw [if_neg fun z => hc z.1]
    refine addS_inv h hs fun x h1 h2 => ?_
    have := hrs x h1 h2
    rw [hD x h1 h2] at this
    have e : sg2 (D s + σ * (x - s)) σ = sg2 (D s) σ := by
      have hxs : 0 ≤ x - s := by grind
      unfold sg2
      rcases sgn_cases (D s) with ⟨a1, a2⟩ | ⟨a1, a2⟩ | ⟨a1, a2⟩
      · rcases sgn_cases σ with ⟨b1, b2⟩ | ⟨b1, b2⟩ | ⟨b1, b2⟩
        · have := mul_nn (Rat.le_of_lt b1) hxs
          rw [if_pos (by grind), if_pos (by grind), a2, sgn_pos (by grind)]
        · rw [a2, b2] at hc; omega
        · rw [b1, if_pos (by grind), if_pos (by grind), a2, sgn_pos (by grind)]
      · rcases sgn_cases σ with ⟨b1, b2⟩ | ⟨b1, b2⟩ | ⟨b1, b2⟩
        · rw [a2, b2] at hc; omega
        · have := mul_nn (a := -σ) (by grind) hxs
          rw [if_pos (by grind), if_pos (by grind), a2, sgn_neg (by grind)]
        · rw [b1, if_pos (by grind), if_pos (by grind), a2, sgn_neg (by grind)]
      · rw [a1, if_neg (show ¬ (0 : Rat) ≠ 0 by simp)]
        split
        · rename_i hne
          rcases sgn_cases σ with ⟨b1, b2⟩ | ⟨b1, b2⟩ | ⟨b1, b2⟩
          · have := mul_nn (Rat.le_of_lt b1) hxs
            rw [b2, sgn_pos (by grind)]
          · have := mul_nn (a := -σ) (by grind) hxs
            rw [b2, sgn_neg (by grind)]
          · rw [b1] at hne; exact absurd (by grind) hne
        · rfl
    rw [e] at this
    exact this
end Mx

namespace Mx
/-! fractions in order -/
def belowL (found : List Rat) (a : Rat) : List Rat := found.filter fun o => decide (o < a)
def insL (found : List Rat) (a : Rat) : List Rat := found.take (belowL found a).length ++ [a] ++ found.drop (belowL found a).length
def insR (found : List Rat) (a : Rat) : List Rat :=
  if (belowL found a).length = found.length ∨ found[(belowL found a).length]? ≠ some a then insL found a else found
def inOrd (xs : List Rat) : List Rat := xs.foldl insR []
def sortL (xs : List Rat) : List Rat := xs.foldl insL []
theorem split_below (a : Rat) : ∀ {found : List Rat}, found.Pairwise (· ≤ ·) → ∃ lo hi, found = lo ++ hi ∧ belowL found a = lo ∧ (∀ o ∈ lo, o < a) ∧ (∀ o ∈ hi, a ≤ o)
  | [], _ => ⟨[], [], rfl, rfl, fun o h => (by cases h), fun o h => (by cases h)⟩
  | x :: xs, p => by
    obtain ⟨h1, h2⟩ := List.pairwise_cons.mp p
    by_cases hx : x < a
    · obtain ⟨lo, hi, e1, e2, e3, e4⟩ := split_below a h2
      refine ⟨x :: lo, hi, by rw [e1]; rfl, ?_, fun o ho => ?_, e4⟩
      · unfold belowL at e2 ⊢
        rw [List.filter_cons_of_pos (by simpa using hx), e2]
      · rcases List.mem_cons.mp ho with z | z
        · rw [z]; exact hx
        · exact e3 o z
    · have hall : ∀ o ∈ x :: xs, a ≤ o := fun o ho => by
        rcases List.mem_cons.mp ho with z | z
        · rw [z]; exact Rat.not_lt.mp hx
        · have := h1 o z; grind
      refine ⟨[], x :: xs, rfl, ?_, fun o h => (by cases h), hall⟩
      unfold belowL
      rw [List.filter_eq_nil_iff]
      intro o ho
      have := hall o ho
      simp; exact Rat.not_lt.mpr this
theorem insL_split {found lo hi : List Rat} {a : Rat} (e : found = lo ++ hi) (b : belowL found a = lo) : insL found a = lo ++ [a] ++ hi := by
  unfold insL
  rw [b, e, List.take_left, List.drop_left]
theorem insL_spec {found : List Rat} {a : Rat} (h : found.Pairwise (· ≤ ·)) : (insL found a).Pairwise (· ≤ ·) ∧ (insL found a).Perm (a :: found) := by
  obtain ⟨lo, hi, e1, e2, e3, e4⟩ := split_below a h
  rw [insL_split e1 e2]
  rw [e1] at h
  obtain ⟨p1, p2, p3⟩ := List.pairwise_append.mp h
  constructor
  · rw [List.append_assoc, List.pairwise_append]
    refine ⟨p1, ?_, fun x hx y hy => ?_⟩
    · rw [List.singleton_append, List.pairwise_cons]
      exact ⟨e4, p2⟩
    · have hxa := e3 x hx
      rcases List.mem_append.mp hy with z | z
      · rw [List.mem_singleton.mp z]; exact Rat.le_of_lt hxa
      · have := e4 y z; grind
  · rw [e1, List.append_assoc]
    exact (List.perm_append_comm (l₁ := lo) (l₂ := [a] ++ hi)).trans (by
      rw [List.singleton_append, List.cons_append]
      exact List.Perm.cons a List.perm_append_comm)
theorem insR_spec {found : List Rat} {a : Rat} (h : found.Pairwise (· < ·)) : (insR found a).Pairwise (· < ·) ∧ ∀ x, x ∈ insR found a ↔ x = a ∨ x ∈ found := by
  have hle : found.Pairwise (· ≤ ·) := h.imp fun z => Rat.le_of_lt z
  obtain ⟨lo, hi, e1, e2, e3, e4⟩ := split_below a hle
  unfold insR
  rw [e2]
  split
  · rename_i hc
    rw [insL_split e1 e2]
    have hna : ∀ y ∈ hi, a < y := fun y hy => by
      have h1 := e4 y hy
      rcases hc with z | z
      · rw [e1, List.length_append] at z
        have : hi = [] := List.length_eq_zero_iff.mp (by omega)
        rw [this] at hy; cases hy
      · cases hi with
        | nil => cases hy
        | cons b hi =>
          rw [e1, List.getElem?_append_right (by omega)] at z
          simp at z
          rw [e1] at h
          have h2 := (List.pairwise_append.mp h).2.1
          have h3 := (List.pairwise_cons.mp h2).1
          rcases List.mem_cons.mp hy with w | w
          · rw [w] at h1 ⊢; grind
          · have := h3 y w; have := e4 b (by simp); grind
    rw [e1] at h
    obtain ⟨p1, p2, p3⟩ := List.pairwise_append.mp h
    refine ⟨?_, fun x => ?_⟩
    · rw [List.append_assoc, List.pairwise_append]
      refine ⟨p1, ?_, fun x hx y hy => ?_⟩
      · rw [List.singleton_append, List.pairwise_cons]
        exact ⟨hna, p2⟩
      · have hxa := e3 x hx
        rcases List.mem_append.mp hy with z | z
        · rw [List.mem_singleton.mp z]; exact hxa
        · have := hna y z; grind
    · rw [e1]
      simp only [List.mem_append, List.mem_singleton]
      constructor
      · rintro ((z | z) | z)
        · exact .inr (.inl z)
        · exact .inl z
        · exact .inr (.inr z)
      · rintro (z | z | z)
        · exact .inl (.inr z)
        · exact .inl (.inl z)
        · exact .inr z
  · rename_i hc
    refine ⟨h, fun x => ⟨fun z => .inr z, fun z => ?_⟩⟩
    rcases z with z | z
    · have : found[lo.length]? = some a := by
        refine Classical.byContradiction fun w => hc (.inr w)
      rw [z]
      exact List.mem_of_getElem? this
    · exact z
theorem inOrd_go : ∀ (xs acc : List Rat), acc.Pairwise (· < ·) → (xs.foldl insR acc).Pairwise (· < ·) ∧ ∀ x, x ∈ xs.foldl insR acc ↔ x ∈ xs ∨ x ∈ acc
  | [], acc, h => ⟨h, fun x => by simp⟩
  | a :: xs, acc, h => by
    obtain ⟨h1, h2⟩ := insR_spec (a := a) h
    obtain ⟨h3, h4⟩ := inOrd_go xs _ h1
    refine ⟨h3, fun x => ?_⟩
    rw [List.foldl_cons, h4, h2, List.mem_cons]
    constructor
    · rintro (z | z | z)
      · exact .inl (.inr z)
      · exact .inl (.inl z)
      · exact .inr z
    · rintro ((z | z) | z)
      · exact .inr (.inl z)
      · exact .inl z
      · exact .inr (.inr z)
theorem inOrd_spec (xs : List Rat) : (inOrd xs).Pairwise (· < ·) ∧ ∀ x, x ∈ inOrd xs ↔ x ∈ xs := by
  obtain ⟨h1, h2⟩ := inOrd_go xs [] .nil
  exact ⟨h1, fun x => by rw [inOrd, h2]; simp⟩
theorem sortL_go : ∀ (xs acc : List Rat), acc.Pairwise (· ≤ ·) → (xs.foldl insL acc).Pairwise (· ≤ ·) ∧ (xs.foldl insL acc).Perm (xs ++ acc)
  | [], acc, h => ⟨h, .refl _⟩
  | a :: xs, acc, h => by
    obtain ⟨h1, h2⟩ := insL_spec (a := a) h
    obtain ⟨h3, h4⟩ := sortL_go xs _ h1
    refine ⟨h3, ?_⟩
    refine h4.trans ((List.Perm.append_left xs h2).trans ?_)
    rw [List.cons_append]
    exact List.perm_middle
theorem sortL_spec (xs : List Rat) : (sortL xs).Pairwise (· ≤ ·) ∧ (sortL xs).Perm xs := by
  obtain ⟨h1, h2⟩ := sortL_go xs [] .nil
  exact ⟨h1, by rw [List.append_nil] at h2; exact h2⟩
theorem sortL_strict {xs : List Rat} (h : xs.Nodup) : (sortL xs).Pairwise (· < ·) := by
  obtain ⟨h1, h2⟩ := sortL_spec xs
  have h3 : (sortL xs).Nodup := h2.nodup_iff.mpr h
  have h4 : (sortL xs).Pairwise (· ≠ ·) := h3
  have := h1.and h4
  exact this.imp fun z => by have := z.1; have := z.2; grind
/-! lines between neighbouring starts -/
def leO (x : Rat) : Option Rat → Prop
  | none => True
  | some b => x ≤ b
def rateR (rows : List Row) (x : Rat) : Rat := match (upTo rows x).getLast? with
  | some b => b.2.2
  | none => 0
theorem Chn.cut {rows : List Row} {s r : Rat} {m : List Row} (c : Chn rows) (hf : rows = (0, 0, r) :: m) (hs : 0 ≤ s) : ∃ pre a post, rows = pre ++ a :: post ∧ a.1 ≤ s ∧ (∀ b ∈ post, s < b.1) ∧ upTo rows s = pre ++ [a] := by
  have pw := c.pw
  have key : ∀ (rows : List Row) (hd : Row) (tl : List Row), rows = hd :: tl → hd.1 ≤ s → rows.Pairwise (fun a b => a.1 < b.1) → ∃ pre a post, rows = pre ++ a :: post ∧ a.1 ≤ s ∧ (∀ b ∈ post, s < b.1) ∧ upTo rows s = pre ++ [a] := by
    intro rows
    induction rows with
    | nil => intro hd tl e; cases e
    | cons x xs ih =>
      intro hd tl e hle p
      cases e
      obtain ⟨p1, p2⟩ := List.pairwise_cons.mp p
      have hfx : upTo (x :: xs) s = x :: upTo xs s := by
        unfold upTo; rw [List.filter_cons_of_pos (by simp; exact Rat.not_lt.mpr hle)]
      cases xs with
      | nil => exact ⟨[], x, [], rfl, hle, fun b hb => (by cases hb), by rw [hfx]; rfl⟩
      | cons y ys =>
        by_cases hy : y.1 ≤ s
        · obtain ⟨pre, a, post, e1, e2, e3, e4⟩ := ih y ys rfl hy p2
          exact ⟨x :: pre, a, post, by rw [e1]; rfl, e2, e3, by rw [hfx, e4]; rfl⟩
        · have hgt : ∀ b ∈ y :: ys, s < b.1 := fun b hb => by
            rcases List.mem_cons.mp hb with z | z
            · rw [z]; exact Rat.not_le.mp hy
            · have := (List.pairwise_cons.mp p2).1 b z
              have := Rat.not_le.mp hy
              grind
          refine ⟨[], x, y :: ys, rfl, hle, hgt, ?_⟩
          rw [hfx]
          have : upTo (y :: ys) s = [] := by
            unfold upTo; rw [List.filter_eq_nil_iff]; intro b hb; have := hgt b hb; simp; exact this
          rw [this]; rfl
  exact key rows _ _ hf hs pw
theorem row_seg {rows : List Row} {s r : Rat} {m : List Row} {n : Option Rat} (c : Chn rows) (hf : rows = (0, 0, r) :: m) (hs : 0 ≤ s) (hno : ∀ b ∈ rows, b.1 ≤ s ∨ ∃ t, n = some t ∧ t ≤ b.1) :
    ∀ y, s ≤ y → leO y n → payR rows y = payR rows s + rateR rows s * (y - s) := by
  intro y hy hyn
  obtain ⟨pre, a, post, e1, e2, e3, e4⟩ := c.cut hf hs
  have hr : rateR rows s = a.2.2 := by unfold rateR; rw [e4]; simp
  rw [hr, row_line c e1 e2 fun b hb => Rat.le_of_lt (e3 b (List.mem_of_mem_head? hb)), row_line c e1 (by grind) fun b hb => ?_]
  · grind
  · have hbm := List.mem_of_mem_head? hb
    have h1 := e3 b hbm
    rcases hno b (by rw [e1]; simp [hbm]) with z | ⟨t, z, z2⟩
    · grind
    · rw [z] at hyn
      have hyn : y ≤ t := hyn
      grind
end Mx

namespace Mx
/-- lines between neighbouring starts -/
def PL (D : Rat → Rat) (S : List Rat) : Prop := ∀ m n : Rat, 0 ≤ m → m < n → (∀ s ∈ S, s ≤ m ∨ n ≤ s) → ∃ σ, ∀ y, m ≤ y → y ≤ n → D y = D m + σ * (y - m)
def sigGo (r1 r2 : List Row) : List Rat → List SRow → List SRow
  | [], acc => acc
  | s :: rest, acc => sigGo r1 r2 rest ((segR s (payR r2 s - payR r1 s) (rateR r2 s - rateR r1 s) rest.head?).foldl addS acc)
def signsL (r1 r2 : List Row) : List SRow := sigGo r1 r2 (inOrd ((r1 ++ r2).map (·.1))) []
structure RowsOk (rows : List Row) : Prop where
  ch : Chn rows
  fst : ∃ r m, rows = (0, 0, r) :: m
theorem ltO_leO {x : Rat} {n : Option Rat} (h : ltO x n) : leO x n := by
  cases n with
  | none => trivial
  | some b => exact Rat.le_of_lt h
theorem sig_inv {r1 r2 : List Row} (k1 : RowsOk r1) (k2 : RowsOk r2) : ∀ (rest : List Rat) (acc : List SRow), rest.Pairwise (· < ·) → (∀ s ∈ rest, 0 ≤ s) →
    (∀ b ∈ r1 ++ r2, (∃ s, rest.head? = some s ∧ b.1 ≤ s) ∨ b.1 ∈ rest) → rest ≠ [] →
    (∀ s, rest.head? = some s → SInv (fun x => payR r2 x - payR r1 x) acc (some s) ∨ (acc = [] ∧ s = 0)) → SInv (fun x => payR r2 x - payR r1 x) (sigGo r1 r2 rest acc) none
  | [], acc, _, _, _, hne, _ => absurd rfl hne
  | s :: rest, acc, hp, h0, hS, _, hi => by
    obtain ⟨p1, p2⟩ := List.pairwise_cons.mp hp
    have hs0 := h0 s (by simp)
    have hlt : ltO s rest.head? := by
      cases rest with
      | nil => trivial
      | cons t rest => exact p1 t (by simp)
    have hno : ∀ b ∈ r1 ++ r2, b.1 ≤ s ∨ ∃ t, rest.head? = some t ∧ t ≤ b.1 := fun b hb => by
      rcases hS b hb with ⟨u, e, z⟩ | z
      · cases e; exact .inl z
      · rcases List.mem_cons.mp z with w | w
        · exact .inl (by rw [w]; exact Rat.le_refl)
        · cases rest with
          | nil => cases w
          | cons t rest =>
            refine .inr ⟨t, rfl, ?_⟩
            rcases List.mem_cons.mp w with v | v
            · rw [v]; exact Rat.le_refl
            · exact Rat.le_of_lt ((List.pairwise_cons.mp p2).1 _ v)
    obtain ⟨q1, m1, f1⟩ := k1.fst
    obtain ⟨q2, m2, f2⟩ := k2.fst
    have l1 := row_seg k1.ch f1 hs0 (n := rest.head?) fun b hb => hno b (List.mem_append_left _ hb)
    have l2 := row_seg k2.ch f2 hs0 (n := rest.head?) fun b hb => hno b (List.mem_append_right _ hb)
    have hD : ∀ y, s ≤ y → ltO y rest.head? → payR r2 y - payR r1 y = payR r2 s - payR r1 s + (rateR r2 s - rateR r1 s) * (y - s) := fun y h1 h2 => by
      rw [l1 y h1 (ltO_leO h2), l2 y h1 (ltO_leO h2)]; grind
    have hseg := seg_inv (D := fun x => payR r2 x - payR r1 x) (found := acc) (s := s) (σ := rateR r2 s - rateR r1 s) (n := rest.head?) (hi s rfl) hlt hD
    unfold sigGo
    cases rest with
    | nil => exact hseg
    | cons t rest =>
      refine sig_inv k1 k2 (t :: rest) _ p2 (fun u hu => h0 u (List.mem_cons_of_mem _ hu)) (fun b hb => ?_) (by simp) fun u hu => ?_
      · rcases hS b hb with ⟨u, e, z⟩ | z
        · cases e; exact .inl ⟨t, rfl, by have := p1 t (by simp); grind⟩
        · rcases List.mem_cons.mp z with w | w
          · exact .inl ⟨t, rfl, by rw [w]; exact Rat.le_of_lt (p1 t (by simp))⟩
          · exact .inr w
      · cases hu
        exact .inl hseg
theorem RowsOk.nn {rows : List Row} (k : RowsOk rows) : ∀ b ∈ rows, 0 ≤ b.1 := fun b hb => by
  obtain ⟨r, m, hf⟩ := k.fst
  have pw := k.ch.pw
  rw [hf] at pw hb
  rcases List.mem_cons.mp hb with z | z
  · rw [z]; exact Rat.le_refl
  · have := (List.pairwise_cons.mp pw).1 b z; simp only at this; grind
theorem signs_inv {r1 r2 : List Row} (k1 : RowsOk r1) (k2 : RowsOk r2) : SInv (fun x => payR r2 x - payR r1 x) (signsL r1 r2) none := by
  obtain ⟨h1, h2⟩ := inOrd_spec ((r1 ++ r2).map (·.1))
  obtain ⟨q, m, f⟩ := k1.fst
  have hmem0 : (0 : Rat) ∈ inOrd ((r1 ++ r2).map (·.1)) := by rw [h2, f]; simp
  have hnn : ∀ s ∈ inOrd ((r1 ++ r2).map (·.1)), 0 ≤ s := fun s hs => by
    rw [h2] at hs
    obtain ⟨b, hb, rfl⟩ := List.mem_map.mp hs
    rcases List.mem_append.mp hb with z | z
    · exact k1.nn b z
    · exact k2.nn b z
  refine sig_inv k1 k2 _ [] h1 hnn (fun b hb => .inr ((h2 _).mpr (List.mem_map_of_mem hb))) (fun z => by rw [z] at hmem0; cases hmem0) fun s hs => .inr ⟨rfl, ?_⟩
  cases hl : inOrd ((r1 ++ r2).map (·.1)) with
  | nil => rw [hl] at hs; cases hs
  | cons t rest =>
    rw [hl] at hs h1 hmem0 hnn
    cases hs
    have := hnn s (by simp)
    rcases List.mem_cons.mp hmem0 with z | z
    · exact z.symm
    · have := (List.pairwise_cons.mp h1).1 0 z; grind
/-- payments by rows are lines between starts -/
theorem RowsOk.pl {rows : List Row} (k : RowsOk rows) {m n : Rat} (hm : 0 ≤ m) (hno : ∀ b ∈ rows, b.1 ≤ m ∨ n ≤ b.1) : ∀ y, m ≤ y → y ≤ n → payR rows y = payR rows m + rateR rows m * (y - m) := by
  obtain ⟨q, r, f⟩ := k.fst
  intro y h1 h2
  exact row_seg k.ch f hm (n := some n) (fun b hb => by
    rcases hno b hb with z | z
    · exact .inl z
    · exact .inr ⟨n, rfl, z⟩) y h1 h2
theorem pl_rows {r1 r2 : List Row} (k1 : RowsOk r1) (k2 : RowsOk r2) : PL (fun x => payR r2 x - payR r1 x) ((r1 ++ r2).map (·.1)) := fun m n hm hmn hS => by
  refine ⟨rateR r2 m - rateR r1 m, fun y h1 h2 => ?_⟩
  have l1 := k1.pl hm (n := n) (fun b hb => hS b.1 (List.mem_map_of_mem (List.mem_append_left _ hb))) y h1 h2
  have l2 := k2.pl hm (n := n) (fun b hb => hS b.1 (List.mem_map_of_mem (List.mem_append_right _ hb))) y h1 h2
  simp only [l1, l2]
  grind
/-! what lists of signs say -/
theorem ChS.at {D : Rat → Rat} : ∀ {r : List SRow} {p : SRow}, ChS D (p :: r) → (∀ q, (p :: r).getLast? = some q → ∀ x, q.1 ≤ x → RS D x q.2) → ∀ x, p.1 ≤ x → ∃ q ∈ p :: r, q.1 ≤ x ∧ RS D x q.2
  | [], p, _, hl, x, hx => ⟨p, by simp, hx, hl p rfl x hx⟩
  | q :: r, p, c, hl, x, hx => by
    by_cases h : x < q.1
    · exact ⟨p, by simp, hx, c.1.2.2 x hx h⟩
    · obtain ⟨u, h1, h2, h3⟩ := ChS.at c.2 (fun v hv => hl v (by rw [List.getLast?_cons_cons]; exact hv)) x (Rat.not_lt.mp h)
      exact ⟨u, List.mem_cons_of_mem _ h1, h2, h3⟩
theorem ChS.mem {D : Rat → Rat} : ∀ {r : List SRow} {p : SRow}, ChS D (p :: r) → (∀ q, (p :: r).getLast? = some q → ∀ x, q.1 ≤ x → RS D x q.2) → ∀ q ∈ p :: r, RS D q.1 q.2 ∧ p.1 ≤ q.1
  | [], p, _, hl, q, hq => by
    rw [List.mem_singleton.mp hq]
    exact ⟨hl p rfl p.1 Rat.le_refl, Rat.le_refl⟩
  | u :: r, p, c, hl, q, hq => by
    rcases List.mem_cons.mp hq with z | z
    · rw [z]; exact ⟨c.1.2.2 p.1 Rat.le_refl c.1.1, Rat.le_refl⟩
    · obtain ⟨h1, h2⟩ := ChS.mem c.2 (fun v hv => hl v (by rw [List.getLast?_cons_cons]; exact hv)) q z
      exact ⟨h1, by have := c.1.1; grind⟩
theorem SInv.at {D : Rat → Rat} {L : List SRow} (i : SInv D L none) {x : Rat} (hx : 0 ≤ x) : ∃ q ∈ L, q.1 ≤ x ∧ RS D x q.2 := by
  obtain ⟨s, r, hf⟩ := i.fst
  have c := i.ch
  have l := i.lst
  rw [hf] at c l ⊢
  exact c.at (fun q hq x hx => (l q hq).2 x hx trivial) x hx
theorem SInv.mem {D : Rat → Rat} {L : List SRow} (i : SInv D L none) {q : SRow} (hq : q ∈ L) : RS D q.1 q.2 ∧ 0 ≤ q.1 := by
  obtain ⟨s, r, hf⟩ := i.fst
  have c := i.ch
  have l := i.lst
  rw [hf] at c l hq
  exact c.mem (fun q hq x hx => (l q hq).2 x hx trivial) q hq
theorem ChS.uniq {D : Rat → Rat} : ∀ (r r' : List SRow) (p p' : SRow), ChS D (p :: r) → (∀ q, (p :: r).getLast? = some q → ∀ x, q.1 ≤ x → RS D x q.2) → ChS D (p' :: r') → (∀ q, (p' :: r').getLast? = some q → ∀ x, q.1 ≤ x → RS D x q.2) → p.1 = p'.1 → p :: r = p' :: r' := by
  intro r
  induction r with
  | nil =>
    intro r' p p' c l c' l' e
    have s1 := (c.mem l p (by simp)).1
    have s2 := (c'.mem l' p' (by simp)).1
    rw [e] at s1
    have es := s1.uniq s2
    cases r' with
    | nil => rw [show p = p' from Prod.ext e es]
    | cons q' r' =>
      exfalso
      have h1 := l p rfl q'.1 (by rw [e]; exact Rat.le_of_lt c'.1.1)
      have h2 := (c'.mem l' q' (by simp)).1
      exact c'.1.2.1 (es.symm.trans (h1.uniq h2))
  | cons q r ih =>
    intro r' p p' c l c' l' e
    have s1 := (c.mem l p (by simp)).1
    have s2 := (c'.mem l' p' (by simp)).1
    rw [e] at s1
    have es := s1.uniq s2
    have hp : p = p' := Prod.ext e es
    have hq := (c.mem l q (by simp)).1
    cases r' with
    | nil =>
      exfalso
      have h1 := l' p' rfl q.1 (by rw [← e]; exact Rat.le_of_lt c.1.1)
      exact c.1.2.1 (es.trans (h1.uniq hq))
    | cons q' r' =>
      have hq' := (c'.mem l' q' (by simp)).1
      have hqq : q.1 = q'.1 := by
        refine Classical.byContradiction fun hne => ?_
        by_cases hlt : q.1 < q'.1
        · have h1 := c'.1.2.2 q.1 (by rw [← e]; exact Rat.le_of_lt c.1.1) hlt
          exact c.1.2.1 (es.trans (h1.uniq hq))
        · have h1 := c.1.2.2 q'.1 (by rw [e]; exact Rat.le_of_lt c'.1.1) (by grind)
          exact c'.1.2.1 (es.symm.trans (h1.uniq hq'))
      rw [hp, ih r' q q' c.2 (fun v hv => l v (by rw [List.getLast?_cons_cons]; exact hv)) c'.2 (fun v hv => l' v (by rw [List.getLast?_cons_cons]; exact hv)) hqq]
theorem SInv.uniq {D : Rat → Rat} {L L' : List SRow} (i : SInv D L none) (j : SInv D L' none) : L = L' := by
  obtain ⟨s, r, hf⟩ := i.fst
  obtain ⟨s', r', hf'⟩ := j.fst
  have c := i.ch
  have l := i.lst
  have c' := j.ch
  have l' := j.lst
  rw [hf] at c l ⊢
  rw [hf'] at c' l' ⊢
  exact ChS.uniq r r' _ _ c (fun q hq x hx => (l q hq).2 x hx trivial) c' (fun q hq x hx => (l' q hq).2 x hx trivial) rfl
def oppS (L : List SRow) : List SRow := L.map fun p => (p.1, -p.2)
theorem ChS.opp {D : Rat → Rat} : ∀ {L : List SRow}, ChS D L → ChS (fun x => - D x) (oppS L)
  | [], _ => trivial
  | [_], _ => trivial
  | a :: b :: r, c => ⟨⟨c.1.1, fun z => c.1.2.1 (by have : -a.2 = -b.2 := z; omega), fun x h1 h2 => (c.1.2.2 x h1 h2).opp⟩, ChS.opp (L := b :: r) c.2⟩
theorem SInv.opp {D : Rat → Rat} {L : List SRow} {n : Option Rat} (i : SInv D L n) : SInv (fun x => - D x) (oppS L) n := by
  obtain ⟨s, r, hf⟩ := i.fst
  refine ⟨i.ch.opp, ⟨-s, oppS r, by rw [hf]; rfl⟩, fun p hp => ?_⟩
  unfold oppS at hp
  rw [List.getLast?_map] at hp
  cases hl : L.getLast? with
  | none => rw [hl] at hp; cases hp
  | some q =>
    rw [hl] at hp
    cases hp
    exact ⟨(i.lst q hl).1, fun x h1 h2 => ((i.lst q hl).2 x h1 h2).opp⟩
theorem SInv.congr {D E : Rat → Rat} {L : List SRow} {n : Option Rat} (i : SInv D L n) (h : ∀ x, 0 ≤ x → E x = D x) : SInv E L n := by
  obtain ⟨s, r, hf⟩ := i.fst
  have key : ∀ (L : List SRow), (∀ p ∈ L, 0 ≤ p.1) → ChS D L → ChS E L := by
    intro L
    induction L with
    | nil => intro _ _; trivial
    | cons a L ih =>
      intro h0 c
      cases L with
      | nil => trivial
      | cons b L => exact ⟨⟨c.1.1, c.1.2.1, fun x h1 h2 => (c.1.2.2 x h1 h2).congr (by have := h0 a (by simp); grind) h⟩, ih (fun p hp => h0 p (List.mem_cons_of_mem _ hp)) c.2⟩
  have h0 : ∀ (r : List SRow) (p : SRow), 0 ≤ p.1 → ChS D (p :: r) → ∀ q ∈ p :: r, 0 ≤ q.1 := by
    intro r
    induction r with
    | nil => intro p hp _ q hq; rw [List.mem_singleton.mp hq]; exact hp
    | cons u r ih =>
      intro p hp c q hq
      rcases List.mem_cons.mp hq with z | z
      · rw [z]; exact hp
      · exact ih u (by have := c.1.1; grind) c.2 q z
  have c := i.ch
  have hn : ∀ q ∈ L, 0 ≤ q.1 := by rw [hf] at c ⊢; exact h0 r _ Rat.le_refl c
  refine ⟨key L hn c, i.fst, fun p hp => ⟨(i.lst p hp).1, fun x h1 h2 => ((i.lst p hp).2 x h1 h2).congr (by have := hn p (List.mem_of_getLast? hp); grind) h⟩⟩
theorem SInv.zero : SInv (fun _ => 0) [(0, 0)] none := ⟨trivial, ⟨0, [], rfl⟩, fun p hp => by
  have : p = (0, 0) := by simpa using hp.symm
  subst this
  exact ⟨trivial, fun x _ _ => ⟨x + 1, by grind, fun y _ _ => by simp [sgn_zero]⟩⟩⟩
/-! where two ladders part -/
def PT (D : Nat → Rat → Rat) (n : Nat) : Option Rat → Prop
  | none => ∀ h, h < n → ∀ x, 0 ≤ x → RS (D h) x 0
  | some t => 0 ≤ t ∧ (∀ h, h < n → ∀ x, 0 ≤ x → x < t → RS (D h) x 0) ∧ ∃ h, h < n ∧ ∃ s, s ≠ 0 ∧ RS (D h) t s
theorem PT.uniq {D : Nat → Rat → Rat} {n : Nat} {o o' : Option Rat} (a : PT D n o) (b : PT D n o') : o = o' := by
  cases o with
  | none =>
    cases o' with
    | none => rfl
    | some t =>
      obtain ⟨h0, _, h, hh, s, hs, hr⟩ := b
      exact absurd (hr.uniq (a h hh t h0)) hs
  | some t =>
    obtain ⟨h0, h1, h, hh, s, hs, hr⟩ := a
    cases o' with
    | none => exact absurd (hr.uniq (b h hh t h0)) hs
    | some t' =>
      obtain ⟨k0, k1, k, hk, s', hs', hr'⟩ := b
      congr 1
      refine Classical.byContradiction fun hne => ?_
      by_cases hlt : t < t'
      · exact hs (hr.uniq (k1 h hh t h0 hlt))
      · exact hs' (hr'.uniq (h1 k hk t' k0 (by grind)))
theorem PT.opp {D : Nat → Rat → Rat} {n : Nat} {o : Option Rat} (a : PT D n o) : PT (fun h x => - D h x) n o := by
  cases o with
  | none => exact fun h hh x hx => by have := (a h hh x hx).opp; exact this
  | some t =>
    obtain ⟨h0, h1, h, hh, s, hs, hr⟩ := a
    exact ⟨h0, fun h hh x hx hxt => by have := (h1 h hh x hx hxt).opp; exact this, h, hh, -s, by omega, hr.opp⟩
theorem PT.congr {D E : Nat → Rat → Rat} {n : Nat} {o : Option Rat} (a : PT D n o) (e : ∀ h, h < n → ∀ x, 0 ≤ x → E h x = D h x) : PT E n o := by
  cases o with
  | none => exact fun h hh x hx => (a h hh x hx).congr hx (e h hh)
  | some t =>
    obtain ⟨h0, h1, h, hh, s, hs, hr⟩ := a
    exact ⟨h0, fun h hh x hx hxt => (h1 h hh x hx hxt).congr hx (e h hh), h, hh, s, hs, hr.congr h0 (e h hh)⟩
def nzS (L : List SRow) : List Rat := (L.filter fun p => !decide (p.2 = 0)).map (·.1)
def partL (n : Nat) (L : Nat → List SRow) : Option Rat := (inOrd ((List.range n).flatMap fun h => nzS (L h))).head?
theorem part_spec {D : Nat → Rat → Rat} {n : Nat} {L : Nat → List SRow} (h : ∀ i, i < n → SInv (D i) (L i) none) : PT D n (partL n L) ∧ ∀ i, i < n → ∀ a ∈ nzS (L i), ∃ t, partL n L = some t ∧ t ≤ a := by
  obtain ⟨o1, o2⟩ := inOrd_spec ((List.range n).flatMap fun h => nzS (L h))
  have hmem : ∀ x, x ∈ inOrd ((List.range n).flatMap fun h => nzS (L h)) ↔ ∃ i, i < n ∧ ∃ s, s ≠ 0 ∧ (x, s) ∈ L i := fun x => by
    rw [o2, List.mem_flatMap]
    constructor
    · rintro ⟨i, hi, hx⟩
      obtain ⟨p, hp, rfl⟩ := List.mem_map.mp hx
      obtain ⟨hp1, hp2⟩ := List.mem_filter.mp hp
      exact ⟨i, List.mem_range.mp hi, p.2, by simpa using hp2, hp1⟩
    · rintro ⟨i, hi, s, hs, hx⟩
      exact ⟨i, List.mem_range.mpr hi, List.mem_map.mpr ⟨(x, s), List.mem_filter.mpr ⟨hx, by simpa using hs⟩, rfl⟩⟩
  unfold partL
  cases hl : inOrd ((List.range n).flatMap fun h => nzS (L h)) with
  | nil =>
    rw [hl] at hmem
    have hno : ∀ i, i < n → ∀ p ∈ L i, p.2 = 0 := fun i hi p hp => Classical.byContradiction fun z => by
      have := (hmem p.1).mpr ⟨i, hi, p.2, z, hp⟩
      cases this
    refine ⟨fun i hi x hx => ?_, fun i hi a ha => ?_⟩
    · obtain ⟨q, hq, _, hr⟩ := (h i hi).at hx
      rw [hno i hi q hq] at hr
      exact hr
    · obtain ⟨p, hp, rfl⟩ := List.mem_map.mp ha
      obtain ⟨hp1, hp2⟩ := List.mem_filter.mp hp
      rw [hno i hi p hp1] at hp2
      simp at hp2
  | cons t rest =>
    rw [hl] at hmem o1
    have hle : ∀ x, (∃ i, i < n ∧ ∃ s, s ≠ 0 ∧ (x, s) ∈ L i) → t ≤ x := fun x hx => by
      rcases List.mem_cons.mp ((hmem x).mpr hx) with z | z
      · rw [z]; exact Rat.le_refl
      · exact Rat.le_of_lt ((List.pairwise_cons.mp o1).1 x z)
    obtain ⟨i, hi, s, hs, hx⟩ := (hmem t).mp (by simp)
    refine ⟨⟨((h i hi).mem hx).2, fun j hj x hx0 hxt => ?_, i, hi, s, hs, ((h i hi).mem hx).1⟩, fun j hj a ha => ⟨t, rfl, ?_⟩⟩
    · obtain ⟨q, hq, hqx, hr⟩ := (h j hj).at hx0
      have : q.2 = 0 := Classical.byContradiction fun z => by
        have := hle q.1 ⟨j, hj, q.2, z, hq⟩
        grind
      rw [this] at hr
      exact hr
    · obtain ⟨p, hp, rfl⟩ := List.mem_map.mp ha
      obtain ⟨hp1, hp2⟩ := List.mem_filter.mp hp
      exact hle p.1 ⟨j, hj, p.2, by simpa using hp2, hp1⟩
end Mx

namespace Sx
open PySem PySem.Spec PyProof.Rows L2 Mx
/-! slices -/
theorem cutD_take {ds : List Dt} {n : Nat} : cutD ds none (some (n : Int)) = ds.take n := by
  unfold cutD
  rw [HT.sIx_nat, HT.sIx_none, List.drop_zero, Nat.sub_zero]
  by_cases h : n ≤ ds.length
  · rw [Nat.min_eq_left h]
  · rw [Nat.min_eq_right (by omega), List.take_of_length_le (by omega), List.take_of_length_le (by omega)]
theorem cutD_drop {ds : List Dt} {n : Nat} : cutD ds (some (n : Int)) none = ds.drop n := by
  unfold cutD
  rw [HT.sIx_nat, HT.sIx_none]
  by_cases h : n ≤ ds.length
  · rw [Nat.min_eq_left h, List.take_of_length_le (by rw [List.length_drop]; omega)]
  · rw [Nat.min_eq_right (by omega), List.drop_of_length_le (by omega), List.drop_of_length_le (by omega)]
    simp
theorem cutD_last {ds : List Dt} : cutD ds none (some (-1)) = ds.take (ds.length - 1) := by
  unfold cutD
  rw [HT.sIx_none, List.drop_zero, Nat.sub_zero]
  have : HT.sIx ds.length ds.length (some (-1)) = ds.length - 1 := by
    unfold HT.sIx
    simp only
    rw [if_pos (by omega)]
    omega
  rw [this]
@[simp] theorem slice_l {ds : List Dt} {lo hi} : sliceD (.list ds) lo hi = some (.list (cutD ds lo hi)) := rfl
@[simp] theorem slice_t {ds : List Dt} {lo hi} : sliceD (.tuple ds) lo hi = some (.tuple (cutD ds lo hi)) := rfl
/-! signs -/
@[simp] theorem intD_b {b : Bool} : intD [.bool b] = some (.int (if b then 1 else 0)) := rfl
theorem num_pos {q : Rat} : 0 < q.num ↔ 0 < q := by rw [Rat.lt_iff]; simp
theorem num_neg {q : Rat} : q.num < 0 ↔ q < 0 := by rw [Rat.lt_iff]; simp
theorem sgn_num (q : Rat) : (if decide (0 < q.num) = true then (1 : Int) else 0) - (if decide (q.num < 0) = true then 1 else 0) = sgn q := by
  unfold sgn
  by_cases h : 0 < q
  · have : 0 < q.num := num_pos.mpr h
    rw [if_pos h]; simp [this]; omega
  · have h1 : ¬ 0 < q.num := fun z => h (num_pos.mp z)
    rw [if_neg h]
    by_cases h2 : q < 0
    · have : q.num < 0 := num_neg.mpr h2
      rw [if_pos h2]; simp [this, h1]
    · have h3 : ¬ q.num < 0 := fun z => h2 (num_neg.mp z)
      rw [if_neg h2]; simp [h1, h3]
theorem sign_of_ok {q : Rat} : F_sign_of [fr q] = .ok (.int (sgn q)) := by
  unfold F_sign_of
  simp only [B_sign_of]
  have := sgn_num q
  simp only [eCB_s, aCons_s, aNil_s, eBin_s, eVar_s, eC_s, runP_s, sRet_s, start0_s, List.map, List.length, List.append, List.getElem?_cons_zero, Res.bind_ok, ix_fr0, ofO_some, cmpD_i, intD_b, subD_i]
  simp only [List.cons_append, List.getElem?_cons_zero, Res.bind_ok, ix_fr0, ofO_some, cmpD_i, intD_b, subD_i, rOut]
  rw [this]
theorem ab_fr (q : Rat) : (PyData.tuple [.int (q.num.natAbs : Int), .int (q.den : Int)] : Dt) = fr (ab q) := by
  unfold ab
  by_cases h : q < 0
  · rw [if_pos h]
    have : q.num < 0 := num_neg.mpr h
    show PyData.tuple [.int (q.num.natAbs : Int), .int (q.den : Int)] = PyData.tuple [.int (-q).num, .int ((-q).den : Int)]
    rw [Rat.neg_num, Rat.neg_den]
    congr 3
    omega
  · rw [if_neg h]
    have : ¬ q.num < 0 := fun z => h (num_neg.mp z)
    show PyData.tuple [.int (q.num.natAbs : Int), .int (q.den : Int)] = PyData.tuple [.int q.num, .int (q.den : Int)]
    congr 3
    omega
theorem ab_bd {k : Nat} {q : Rat} (h : Bd k q) : Bd k (ab q) := by
  unfold ab; split
  · exact h.neg
  · exact h
/-! the rate after an amount, by rows -/
theorem rate_at_ok {rows : List Mx.Row} {x r : Rat} {m : List Mx.Row} {k : Nat} (hb : ∀ b ∈ rows, Rb 24 b) (hx : 0 ≤ x) (hxb : Bd k x) (hk : k ≤ 3000) (hr : rows = (0, 0, r) :: m) (hl : rows.length ≤ 1000) : F_rate_at [.list (rows.map rowD), fr x] = .ok (fr (rateR rows x)) ∧ Bd 13 (rateR rows x) := by
  have hc : cL (gN 2) cC_rate_at_1 cE_rate_at_1 [some (.d (.list (rows.map rowD))), some (.d (fr x)), none] (rows.map rowD) none = .ok ((upTo rows x).map rowD, none) := by
    unfold Mx.upTo
    refine cL_ty rowD _ _ rows fun b hb' => ⟨_, by simp; rfl, ?_, fun _ => by simp [cE_rate_at_1]⟩
    have := is_less_ok (a := x) (b := b.1) (hxb.mono (by omega)) ((hb b hb').1.mono (by decide))
    simp [cC_rate_at_1, this]
  have hne : upTo rows x ≠ [] := by
    have : (0, 0, r) ∈ upTo rows x := by
      unfold Mx.upTo
      rw [List.mem_filter, hr]
      exact ⟨by simp, by simp; exact Rat.not_lt.mpr hx⟩
    exact fun z => by rw [z] at this; cases this
  rcases List.eq_nil_or_concat (upTo rows x) with he | ⟨pre, b, he⟩
  · exact absurd he hne
  · rw [List.concat_eq_append] at he
    have hbm : b ∈ rows := by
      have : b ∈ upTo rows x := by rw [he]; simp
      exact (List.mem_filter.mp this).1
    have hp : rateR rows x = b.2.2 := by unfold rateR; rw [he]; simp
    have hat : atI ((upTo rows x).map rowD) (-1) = some (rowD b) := by rw [he, List.map_append]; exact atI_last
    refine ⟨?_, by rw [hp]; exact (hb b hbm).2.2⟩
    unfold F_rate_at
    simp only [B_rate_at]
    generalize hD : (upTo rows x).map rowD = D at *
    generalize hD2 : rows.map rowD = D2 at *
    have hl2 : D2.length ≤ 100000 := by rw [← hD2, List.length_map]; omega
    simp [wipeOk, hl2, hc, hat, hp]
/-! in order -/
theorem flt_frs {xs : List Rat} : flts 1 (xs.map fr) = true := flts_map fun _ _ => flt_fr
theorem insL_len (found : List Rat) (a : Rat) : (insL found a).length = found.length + 1 := by
  unfold insL
  have : (belowL found a).length ≤ found.length := List.length_filter_le _ _
  simp
  omega
theorem insR_len (found : List Rat) (a : Rat) : (insR found a).length ≤ found.length + 1 := by
  unfold insR; split
  · rw [insL_len]; omega
  · omega
theorem insL_mem {found : List Rat} {a x : Rat} (h : x ∈ insL found a) : x = a ∨ x ∈ found := by
  unfold insL at h
  rcases List.mem_append.mp h with z | z
  · rcases List.mem_append.mp z with w | w
    · exact .inr (List.mem_of_mem_take w)
    · exact .inl (List.mem_singleton.mp w)
  · exact .inr (List.mem_of_mem_drop z)
theorem insR_mem {found : List Rat} {a x : Rat} (h : x ∈ insR found a) : x = a ∨ x ∈ found := by
  unfold insR at h; split at h
  · exact insL_mem h
  · exact .inr h
theorem in_order_ok {xs : List Rat} (hb : ∀ x ∈ xs, Bd 4000 x) (hl : xs.length ≤ 1000) : F_in_order [.list (xs.map fr)] = .ok (.list ((inOrd xs).map fr)) := by
  obtain ⟨ρ', h1, y2, y3, h2, h3, rfl⟩ := fL_pre (W := none) (g := gN 2) (body := lB_in_order_1) fr (fun pre ρ => ∃ y2 y3, (pre.foldl insR []).length ≤ pre.length ∧ (∀ x ∈ pre.foldl insR [], Bd 4000 x) ∧ ρ = [some (.d (.list (xs.map fr))), some (.d (.list ((pre.foldl insR []).map fr))), y2, y3, none]) xs
    [some (.d (.list (xs.map fr))), some (.d (.list [])), none, none, none] ⟨none, none, by simp, fun x hx => (by cases hx), rfl⟩ (by
      rintro pre a post ρ e ⟨y2, y3, hlen, hbd, rfl⟩
      have ha := hb a (by rw [e]; simp)
      have hpl : pre.length < xs.length := by rw [e, List.length_append, List.length_cons]; omega
      obtain ⟨F, hF⟩ : ∃ F, F = pre.foldl insR [] := ⟨_, rfl⟩
      rw [← hF] at hlen hbd ⊢
      have hc : cL (gN 4) cC_in_order_2 cE_in_order_2 [some (.d (.list (xs.map fr))), some (.d (.list (F.map fr))), some (.d (fr a)), y3, none] (F.map fr) none = .ok ((belowL F a).map fr, none) := by
        unfold belowL
        refine cL_ty fr _ _ F fun b hb' => ⟨_, by simp; rfl, ?_, fun _ => by simp [cE_in_order_2]⟩
        have := is_less_ok (a := b) (b := a) (hbd b hb') ha
        simp [cC_in_order_2, this]
      have hle : (belowL F a).length ≤ F.length := List.length_filter_le _ _
      have ef : (pre ++ [a]).foldl insR [] = insR F a := by rw [List.foldl_append, ← hF]; rfl
      refine ⟨_, [some (.d (.list (xs.map fr))), some (.d (.list ((insR F a).map fr))), some (.d (fr a)), some (.d (iD (belowL F a).length)), none], by simp; rfl, ?_, some (.d (fr a)), some (.d (iD (belowL F a).length)), ?_, ?_, by rw [ef]⟩
      · have hlenB : ((belowL F a).map fr).length = (belowL F a).length := List.length_map ..
        have hfl : (F.map fr).length = F.length := List.length_map ..
        have hins : (insL F a).map fr = (F.map fr).take (belowL F a).length ++ [fr a] ++ (F.map fr).drop (belowL F a).length := by
          unfold insL; simp
        have hixA : (belowL F a).length < F.length → atI (F.map fr) (((belowL F a).length : Nat) : Int) = some (fr (F.getD (belowL F a).length 0)) := fun h => by
          rw [atI_nat (by rw [hfl]; exact h), List.getElem?_map, List.getElem?_eq_getElem h]
          simp [List.getD, h]
        have hins2 : insR F a = if (belowL F a).length = F.length ∨ F[(belowL F a).length]? ≠ some a then insL F a else F := rfl
        generalize hB : (belowL F a).length = p at *
        generalize hD : (belowL F a).map fr = DB at *
        by_cases hp : p = F.length
        · rw [if_pos (.inl hp)] at hins2
          rw [hins2, hins]
          generalize hD : F.map fr = D at *
          simp [lB_in_order_1, wipeOk, hfl, show F.length ≤ 100000 by omega, hc, hlenB, hp, cutD_take, cutD_drop, show F.length + 1 ≤ 100000 by omega]
        · have hp' : p < F.length := by omega
          have hix := hixA hp'
          have hne := neD_fr (a := F.getD p 0) (b := a)
          have hgd : F[p]? = some (F.getD p 0) := by rw [List.getElem?_eq_getElem hp']; simp [List.getD, hp']
          generalize hv : F.getD p 0 = v at *
          by_cases hq : v = a
          · rw [if_neg (by rw [hgd, hq]; simp [hp])] at hins2
            rw [hins2]
            rw [decide_eq_true hq] at hne
            generalize hD : F.map fr = D at *
            simp [lB_in_order_1, wipeOk, hfl, show F.length ≤ 100000 by omega, hc, hlenB, hix, hne, show ¬ (p : Int) = (F.length : Int) by omega]
          · rw [if_pos (.inr (by rw [hgd]; simp [hq]))] at hins2
            rw [hins2, hins]
            rw [decide_eq_false hq] at hne
            generalize hD : F.map fr = D at *
            simp [lB_in_order_1, wipeOk, hfl, show F.length ≤ 100000 by omega, hc, hlenB, hix, hne, cutD_take, cutD_drop, show ¬ (p : Int) = (F.length : Int) by omega, show min p F.length + 1 ≤ 100000 by omega, show min p F.length + 1 + (F.length - p) ≤ 100000 by omega]
      · rw [ef, List.length_append, List.length_singleton]; have := insR_len F a; omega
      · rw [ef]
        intro x hx
        rcases insR_mem hx with z | z
        · rw [z]; exact ha
        · exact hbd x z)
  unfold F_in_order
  simp only [B_in_order]
  simp [h1, inOrd]
theorem law_sorted_ok {xs : List Rat} (hb : ∀ x ∈ xs, Bd 4000 x) (hl : xs.length ≤ 1000) : F__law_sorted [.list (xs.map fr)] = .ok (.list ((sortL xs).map fr)) := by
  obtain ⟨ρ', h1, y2, y3, h2, h3, rfl⟩ := fL_pre (W := none) (g := gN 2) (body := lB__law_sorted_1) fr (fun pre ρ => ∃ y2 y3, (pre.foldl insL []).length ≤ pre.length ∧ (∀ x ∈ pre.foldl insL [], Bd 4000 x) ∧ ρ = [some (.d (.list (xs.map fr))), some (.d (.list ((pre.foldl insL []).map fr))), y2, y3, none]) xs
    [some (.d (.list (xs.map fr))), some (.d (.list [])), none, none, none] ⟨none, none, by simp, fun x hx => (by cases hx), rfl⟩ (by
      rintro pre a post ρ e ⟨y2, y3, hlen, hbd, rfl⟩
      have ha := hb a (by rw [e]; simp)
      have hpl : pre.length < xs.length := by rw [e, List.length_append, List.length_cons]; omega
      obtain ⟨F, hF⟩ : ∃ F, F = pre.foldl insL [] := ⟨_, rfl⟩
      rw [← hF] at hlen hbd ⊢
      have hc : cL (gN 4) cC__law_sorted_2 cE__law_sorted_2 [some (.d (.list (xs.map fr))), some (.d (.list (F.map fr))), some (.d (fr a)), y3, none] (F.map fr) none = .ok ((belowL F a).map fr, none) := by
        unfold belowL
        refine cL_ty fr _ _ F fun b hb' => ⟨_, by simp; rfl, ?_, fun _ => by simp [cE__law_sorted_2]⟩
        have := lbelow_ok (a := b) (b := a) (hbd b hb') ha
        simp [cC__law_sorted_2, this]
      have hle : (belowL F a).length ≤ F.length := List.length_filter_le _ _
      have ef : (pre ++ [a]).foldl insL [] = insL F a := by rw [List.foldl_append, ← hF]; rfl
      refine ⟨_, [some (.d (.list (xs.map fr))), some (.d (.list ((insL F a).map fr))), some (.d (fr a)), some (.d (iD (belowL F a).length)), none], by simp; rfl, ?_, some (.d (fr a)), some (.d (iD (belowL F a).length)), ?_, ?_, by rw [ef]⟩
      · have hlenB : ((belowL F a).map fr).length = (belowL F a).length := List.length_map ..
        have hfl : (F.map fr).length = F.length := List.length_map ..
        have hins : (insL F a).map fr = (F.map fr).take (belowL F a).length ++ [fr a] ++ (F.map fr).drop (belowL F a).length := by
          unfold insL; simp
        generalize hB : (belowL F a).length = p at *
        generalize hD : (belowL F a).map fr = DB at *
        rw [hins]
        generalize hD : F.map fr = D at *
        simp [lB__law_sorted_1, wipeOk, hfl, show F.length ≤ 100000 by omega, hc, hlenB, cutD_take, cutD_drop, show min p F.length ≤ 99999 by omega, show min p F.length + 1 + (F.length - p) ≤ 100000 by omega]
      · rw [ef, List.length_append, List.length_singleton]; have := insL_len F a; omega
      · rw [ef]
        intro x hx
        rcases insL_mem hx with z | z
        · rw [z]; exact ha
        · exact hbd x z)
  unfold F__law_sorted
  simp only [B__law_sorted]
  simp [h1, sortL]
end Sx

namespace Sx
open PySem PySem.Spec PyProof.Rows L2 Mx
def srD (p : SRow) : Dt := .tuple [fr p.1, .int p.2]
theorem flt_sr {k : Nat} {p : SRow} : flt (k + 2) (srD p) = true := rfl
@[simp] theorem ix_sr0 {p : SRow} : ixD (srD p) (.int 0) = some (fr p.1) := by rfl
@[simp] theorem ix_sr1 {p : SRow} : ixD (srD p) (.int 1) = some (.int p.2) := by rfl
@[simp] theorem gTu_sr {p : SRow} {gs : SGs} {ρ : Sl} : gTu 2 gs (srD p) ρ = gs [fr p.1, .int p.2] ρ := by rfl
theorem sign_add {x0 x1 x2 x3 x4 x5 x7 x8 x9 x10 x11 x13 : Option SV} (acc : List SRow) (row : SRow) (hl : acc.length ≤ 10000) :
    lB_found_signs_3 [x0, x1, x2, x3, x4, x5, some (.own (acc.map srD)), x7, x8, x9, x10, x11, some (.d (srD row)), x13] none =
      .nx [x0, x1, x2, x3, x4, x5, some (.own ((addS acc row).map srD)), x7, x8, x9, x10, x11, some (.d (srD row)), x13] none := by
  have hnil := eqD_nil (ds := acc.map srD) (k := 2) (flts_map fun b _ => flt_sr) (by decide)
  have hfl : (acc.map srD).length = acc.length := List.length_map ..
  rcases List.eq_nil_or_concat acc with he | ⟨pre, b, he⟩
  · subst he
    have hnil : eqD (.list []) (.list []) = some (.bool true) := hnil
    simp [lB_found_signs_3, hnil, addS]
  · rw [List.concat_eq_append] at he
    have hat : atI (acc.map srD) (-1) = some (srD b) := by rw [he, List.map_append]; exact atI_last
    have hemp : (acc.map srD).isEmpty = false := by rw [he]; simp
    rw [hemp] at hnil
    have ha : addS acc row = if b.2 = row.2 then acc else acc ++ [row] := by unfold addS; rw [he]; simp
    rw [ha]
    by_cases hb : b.2 = row.2
    · rw [if_pos hb]
      generalize hD : acc.map srD = D at *
      simp [lB_found_signs_3, hnil, hat, hb]
    · rw [if_neg hb, List.map_append]
      generalize hD : acc.map srD = D at *
      simp [lB_found_signs_3, hnil, hat, hb, show acc.length < 100000 by omega, hfl]
theorem addS_len (acc : List SRow) (row : SRow) : (addS acc row).length ≤ acc.length + 1 := by
  unfold addS; split
  · simp
  · split
    · omega
    · simp
theorem sign_adds {x0 x1 x2 x3 x4 x5 x7 x8 x9 x10 x11 x13 : Option SV} : ∀ (rows acc : List SRow) (x12 : Option SV), acc.length + rows.length ≤ 10000 →
    ∃ y12, fL (gN 12) lB_found_signs_3 (rows.map srD) [x0, x1, x2, x3, x4, x5, some (.own (acc.map srD)), x7, x8, x9, x10, x11, x12, x13] none =
      .nx [x0, x1, x2, x3, x4, x5, some (.own ((rows.foldl addS acc).map srD)), x7, x8, x9, x10, x11, y12, x13] none
  | [], acc, x12, _ => ⟨x12, rfl⟩
  | r :: rows, acc, x12, hl => by
    rw [List.length_cons] at hl
    obtain ⟨y12, h⟩ := sign_adds rows (addS acc r) (some (.d (srD r))) (by have := addS_len acc r; omega)
    refine ⟨y12, ?_⟩
    rw [List.map_cons, fL_cons]
    simp only [gN_s, List.length_cons, List.length_nil, List.set_cons_succ, List.set_cons_zero]
    rw [if_pos (by omega)]
    simp only [sign_add acc r (by omega)]
    exact h
theorem mulOk_sgn (a b : Rat) : mulOk (sgn a) (sgn b) = true := mulOk_of (j := 1) (k := 1) (by rcases sgn_cases a with ⟨_, e⟩ | ⟨_, e⟩ | ⟨_, e⟩ <;> rw [e] <;> decide) (by rcases sgn_cases b with ⟨_, e⟩ | ⟨_, e⟩ | ⟨_, e⟩ <;> rw [e] <;> decide) (by decide)
structure RowsB (rows : List Mx.Row) : Prop where
  ok : RowsOk rows
  bd : ∀ b ∈ rows, Rb 24 b
  len : rows.length ≤ 1000
theorem segR_len (s g σ : Rat) (n : Option Rat) : (segR s g σ n).length ≤ 2 := by unfold segR; split <;> simp
theorem sg2_if {g σ : Rat} : sg2 g σ = if (!decide (g = 0)) = true then sgn g else sgn σ := by
  unfold sg2
  by_cases h : g = 0 <;> simp [h]
theorem signs_turn {x0 x1 x2 y9 y10 y11 y12 y13 : Option SV} {r1 r2 : List Mx.Row} (k1 : RowsB r1) (k2 : RowsB r2) {starts pre rest : List Rat} {s : Rat} (e : starts = pre ++ s :: rest) (hs : 0 ≤ s) (hsb : ∀ s ∈ starts, Bd 24 s) (acc : List SRow) (hl : acc.length ≤ 9000) :
    ∃ z9 z10 z11 z12 z13, lB_found_signs_2 [x0, x1, x2, some (.d (.list (r1.map rowD))), some (.d (.list (r2.map rowD))), some (.d (.list (starts.map fr))), some (.own (acc.map srD)), some (.d (iD pre.length)), some (.d (fr s)), y9, y10, y11, y12, y13] none =
      .nx [x0, x1, x2, some (.d (.list (r1.map rowD))), some (.d (.list (r2.map rowD))), some (.d (.list (starts.map fr))), some (.own (((segR s (payR r2 s - payR r1 s) (rateR r2 s - rateR r1 s) rest.head?).foldl addS acc).map srD)), some (.d (iD pre.length)), some (.d (fr s)), z9, z10, z11, z12, z13] none := by
  have sb := hsb s (by rw [e]; simp)
  obtain ⟨q1, m1, f1⟩ := k1.ok.fst
  obtain ⟨q2, m2, f2⟩ := k2.ok.fst
  obtain ⟨p1, b1⟩ := payment_at_ok k1.bd hs sb (by decide) f1 k1.len
  obtain ⟨p2, b2⟩ := payment_at_ok k2.bd hs sb (by decide) f2 k2.len
  obtain ⟨p3, b3⟩ := rate_at_ok k1.bd hs sb (by decide) f1 k1.len
  obtain ⟨p4, b4⟩ := rate_at_ok k2.bd hs sb (by decide) f2 k2.len
  have p5 := minus_ok (a := payR r2 s) (b := payR r1 s) (b2.mono (by decide)) (b1.mono (by decide))
  have b5 := b2.sub b1
  have p6 := minus_ok (a := rateR r2 s) (b := rateR r1 s) (b4.mono (by decide)) (b3.mono (by decide))
  have b6 := b4.sub b3
  generalize hg : payR r2 s - payR r1 s = g at *
  generalize hσ : rateR r2 s - rateR r1 s = σ at *
  have hne := neD_fr0 (a := g)
  have hsg : (neD (fr g) (.tuple [.int 0, .int 1]) = some (.bool true) ∧ sg2 g σ = sgn g) ∨ (neD (fr g) (.tuple [.int 0, .int 1]) = some (.bool false) ∧ sg2 g σ = sgn σ) := by
    by_cases h : g = 0
    · rw [decide_eq_true h] at hne
      exact .inr ⟨hne, by unfold sg2; rw [if_neg (by simpa using h)]⟩
    · rw [decide_eq_false h] at hne
      exact .inl ⟨hne, by unfold sg2; rw [if_pos h]⟩
  have hmul : mulD (.int (sgn g)) (.int (sgn σ)) = some (.int (sgn g * sgn σ)) := by rw [mulD_i, if_pos (mulOk_sgn g σ)]
  have hlS : (starts.map fr).length = pre.length + 1 + rest.length := by rw [List.length_map, e, List.length_append, List.length_cons]; omega
  by_cases hc : sgn g * sgn σ < 0
  · have hσ0 : σ ≠ 0 := fun z => by rw [z, sgn_zero] at hc; omega
    have hab : 0 < ab σ := ab_pos hσ0
    have p7 := quotient_ok (a := ab g) (b := ab σ) ((ab_bd b5).mono (by decide)) ((ab_bd b6).mono (by decide)) hab
    have b7 := (ab_bd b5).div (ab_bd b6) (by decide)
    have p8 := plus_ok (a := s) (b := ab g / ab σ) (sb.mono (by decide)) (b7.mono (by decide))
    have b8 := sb.add b7
    rw [← ab_fr g, ← ab_fr σ] at p7
    generalize hz : s + ab g / ab σ = z at *
    -- is there a further row?
    have hfin : ∀ rows : List SRow, rows.length ≤ 2 → ∃ y12', fL (gN 12) lB_found_signs_3 (rows.map srD) [x0, x1, x2, some (.d (.list (r1.map rowD))), some (.d (.list (r2.map rowD))), some (.d (.list (starts.map fr))), some (.own (acc.map srD)), some (.d (iD pre.length)), some (.d (fr s)), some (.d (fr g)), some (.d (fr σ)), some (.d (.list (rows.map srD))), y12, some (.d (fr z))] none = _ := fun rows hr => sign_adds rows acc y12 (by omega)
    have hrow : PyData.tuple [fr s, .int (sg2 g σ)] = srD (s, sg2 g σ) := rfl
    have hrow2 : PyData.tuple [fr z, .int (sgn σ)] = srD (z, sgn σ) := rfl
    cases rest with
    | nil =>
      have hseg : segR s g σ none = [(s, sg2 g σ), (z, sgn σ)] := by unfold segR; rw [hz, if_pos ⟨hc, trivial⟩]
      obtain ⟨y12', hf⟩ := hfin [(s, sg2 g σ), (z, sgn σ)] (by simp)
      refine ⟨some (.d (fr g)), some (.d (fr σ)), some (.d (.list ([(s, sg2 g σ), (z, sgn σ)].map srD))), y12', some (.d (fr z)), ?_⟩
      show _ = Out.nx [_, _, _, _, _, _, some (.own (((segR s g σ none).foldl addS acc).map srD)), _, _, _, _, _, _, _] none
      rw [hseg]
      have hlen : (starts.map fr).length = pre.length + 1 := by rw [hlS]; rfl
      generalize hD1 : r1.map rowD = D1 at *
      generalize hD2 : r2.map rowD = D2 at *
      generalize hD3 : starts.map fr = D3 at *
      simp only [List.map_cons, List.map_nil] at hf ⊢
      rcases hsg with ⟨hn, h2⟩ | ⟨hn, h2⟩ <;>
        (rw [h2] at hf hrow ⊢; simp [p1, p2, p3, p4, p5, p6, lB_found_signs_2, hn, sign_of_ok, hmul, hc, p7, p8, hlen, hf, hrow, hrow2])
    | cons t rest =>
      have tb := hsb t (by rw [e]; simp)
      have p9 := is_less_ok (a := z) (b := t) (b8.mono (by decide)) (tb.mono (by decide))
      have hixt : atI (starts.map fr) ((pre.length : Int) + 1) = some (fr t) := by
        have : atI (starts.map fr) (((pre.length + 1 : Nat)) : Int) = some (fr t) := by
          rw [atI_nat (by rw [hlS]; simp), e]
          simp
        exact this
      have hlen : ((pre.length : Int) + 1 == ((starts.map fr).length : Int)) = false := by rw [hlS]; simp; omega
      by_cases hzt : z < t
      · rw [decide_eq_true hzt] at p9
        have hseg : segR s g σ (some t) = [(s, sg2 g σ), (z, sgn σ)] := by unfold segR; rw [hz, if_pos ⟨hc, hzt⟩]
        obtain ⟨y12', hf⟩ := hfin [(s, sg2 g σ), (z, sgn σ)] (by simp)
        refine ⟨some (.d (fr g)), some (.d (fr σ)), some (.d (.list ([(s, sg2 g σ), (z, sgn σ)].map srD))), y12', some (.d (fr z)), ?_⟩
        show _ = Out.nx [_, _, _, _, _, _, some (.own (((segR s g σ (some t)).foldl addS acc).map srD)), _, _, _, _, _, _, _] none
        rw [hseg]
        generalize hD1 : r1.map rowD = D1 at *
        generalize hD2 : r2.map rowD = D2 at *
        generalize hD3 : starts.map fr = D3 at *
        simp only [List.map_cons, List.map_nil] at hf ⊢
        rcases hsg with ⟨hn, h2⟩ | ⟨hn, h2⟩ <;>
          (rw [h2] at hf hrow ⊢; simp [p1, p2, p3, p4, p5, p6, lB_found_signs_2, hn, sign_of_ok, hmul, hc, p7, p8, hlen, hixt, p9, hf, hrow, hrow2])
      · rw [decide_eq_false hzt] at p9
        have hseg : segR s g σ (some t) = [(s, sg2 g σ)] := by unfold segR; rw [hz, if_neg fun w => hzt w.2]
        obtain ⟨y12', hf⟩ := hfin [(s, sg2 g σ)] (by simp)
        refine ⟨some (.d (fr g)), some (.d (fr σ)), some (.d (.list ([(s, sg2 g σ)].map srD))), y12', some (.d (fr z)), ?_⟩
        show _ = Out.nx [_, _, _, _, _, _, some (.own (((segR s g σ (some t)).foldl addS acc).map srD)), _, _, _, _, _, _, _] none
        rw [hseg]
        generalize hD1 : r1.map rowD = D1 at *
        generalize hD2 : r2.map rowD = D2 at *
        generalize hD3 : starts.map fr = D3 at *
        simp only [List.map_cons, List.map_nil] at hf ⊢
        rcases hsg with ⟨hn, h2⟩ | ⟨hn, h2⟩ <;>
          (rw [h2] at hf hrow ⊢; simp [p1, p2, p3, p4, p5, p6, lB_found_signs_2, hn, sign_of_ok, hmul, hc, p7, p8, hlen, hixt, p9, hf, hrow, hrow2])
  · have hseg : segR s g σ rest.head? = [(s, sg2 g σ)] := by unfold segR; rw [if_neg fun w => hc w.1]
    obtain ⟨y12', hf⟩ := sign_adds (x0 := x0) (x1 := x1) (x2 := x2) (x3 := some (.d (.list (r1.map rowD)))) (x4 := some (.d (.list (r2.map rowD)))) (x5 := some (.d (.list (starts.map fr)))) (x7 := some (.d (iD pre.length))) (x8 := some (.d (fr s))) (x9 := some (.d (fr g))) (x10 := some (.d (fr σ))) (x11 := some (.d (.list ([(s, sg2 g σ)].map srD)))) (x13 := y13) [(s, sg2 g σ)] acc y12 (by simp; omega)
    have hrow : PyData.tuple [fr s, .int (sg2 g σ)] = srD (s, sg2 g σ) := rfl
    refine ⟨some (.d (fr g)), some (.d (fr σ)), some (.d (.list ([(s, sg2 g σ)].map srD))), y12', y13, ?_⟩
    rw [hseg]
    generalize hD1 : r1.map rowD = D1 at *
    generalize hD2 : r2.map rowD = D2 at *
    generalize hD3 : starts.map fr = D3 at *
    simp only [List.map_cons, List.map_nil] at hf ⊢
    rcases hsg with ⟨hn, h2⟩ | ⟨hn, h2⟩ <;>
      (rw [h2] at hf hrow ⊢; simp [p1, p2, p3, p4, p5, p6, lB_found_signs_2, hn, sign_of_ok, hmul, hc, hf, hrow])
end Sx

namespace Sx
open PySem PySem.Spec PyProof.Rows L2 Mx
theorem foldS_len (rows : List SRow) : ∀ acc : List SRow, (rows.foldl addS acc).length ≤ acc.length + rows.length := by
  induction rows with
  | nil => intro acc; simp
  | cons r rows ih => intro acc; rw [List.foldl_cons, List.length_cons]; have := ih (addS acc r); have := addS_len acc r; omega
theorem signs_loop {x0 x1 x2 : Option SV} {r1 r2 : List Mx.Row} (k1 : RowsB r1) (k2 : RowsB r2) {starts : List Rat} (hs : ∀ s ∈ starts, 0 ≤ s) (hsb : ∀ s ∈ starts, Bd 24 s) : ∀ (rest pre : List Rat) (acc : List SRow) (y7 y8 y9 y10 y11 y12 y13 : Option SV), starts = pre ++ rest → acc.length + 2 * rest.length ≤ 9000 →
    ∃ z7 z8 z9 z10 z11 z12 z13, fL (gTu 2 (gsCons (gN 7) (gsCons (gN 8) gsNil))) lB_found_signs_2 (enumD pre.length (rest.map fr)) [x0, x1, x2, some (.d (.list (r1.map rowD))), some (.d (.list (r2.map rowD))), some (.d (.list (starts.map fr))), some (.own (acc.map srD)), y7, y8, y9, y10, y11, y12, y13] none =
      .nx [x0, x1, x2, some (.d (.list (r1.map rowD))), some (.d (.list (r2.map rowD))), some (.d (.list (starts.map fr))), some (.own ((sigGo r1 r2 rest acc).map srD)), z7, z8, z9, z10, z11, z12, z13] none
  | [], pre, acc, y7, y8, y9, y10, y11, y12, y13, e, hl => ⟨_, _, _, _, _, _, _, rfl⟩
  | s :: rest, pre, acc, y7, y8, y9, y10, y11, y12, y13, e, hl => by
    rw [List.length_cons] at hl
    obtain ⟨z9, z10, z11, z12, z13, ht⟩ := signs_turn (x0 := x0) (x1 := x1) (x2 := x2) (y9 := y9) (y10 := y10) (y11 := y11) (y12 := y12) (y13 := y13) k1 k2 e (hs s (by rw [e]; simp)) hsb acc (by omega)
    have hl2 : ((segR s (payR r2 s - payR r1 s) (rateR r2 s - rateR r1 s) rest.head?).foldl addS acc).length + 2 * rest.length ≤ 9000 := by
      have h1 := foldS_len (segR s (payR r2 s - payR r1 s) (rateR r2 s - rateR r1 s) rest.head?) acc
      have h2 := segR_len s (payR r2 s - payR r1 s) (rateR r2 s - rateR r1 s) rest.head?
      omega
    obtain ⟨w7, w8, w9, w10, w11, w12, w13, hr⟩ := signs_loop k1 k2 hs hsb rest (pre ++ [s]) _ (some (.d (iD pre.length))) (some (.d (fr s))) z9 z10 z11 z12 z13 (by rw [e]; simp) hl2
    refine ⟨w7, w8, w9, w10, w11, w12, w13, ?_⟩
    have eE : enumD pre.length ((s :: rest).map fr) = .tuple [.int (pre.length : Int), fr s] :: enumD (pre ++ [s]).length (rest.map fr) := by rw [List.length_append]; rfl
    rw [eE, fL_c2 (by simp) (by simp)]
    simp only [List.set_cons_zero, List.set_cons_succ]
    rw [ht]
    exact hr
theorem inOrd_len (xs : List Rat) : (inOrd xs).length ≤ xs.length := by
  have key : ∀ (xs acc : List Rat), (xs.foldl insR acc).length ≤ acc.length + xs.length := by
    intro xs
    induction xs with
    | nil => intro acc; simp
    | cons a xs ih => intro acc; rw [List.foldl_cons, List.length_cons]; have := ih (insR acc a); have := insR_len acc a; omega
  have := key xs []
  simp at this
  exact this
theorem Lad.rowsB {l : Lad} (k : l.Ok) (h : Nat) : RowsB (rowsL l.rs h) := ⟨⟨rows_chain k.ok k.ex, rows_first k.ok k.ex⟩, rowsL_bd k h, rowsL_len k h⟩
theorem rowsL_short {l : Lad} (k : l.Ok) (h : Nat) : (rowsL l.rs h).length ≤ 40 := by
  have hn := npcs_len (n := l.n) k.n5 0 l.rs k.ok
  have h2 : (lpcs l.rs).length = (npcs 0 l.rs).length := by rw [← npcs_snd 0 l.rs, List.length_map]
  have key : ∀ (ps : List Pc) (acc : List Mx.Row) (s p : Rat), (bgo h ps acc s p).length ≤ acc.length + ps.length := by
    intro ps
    induction ps with
    | nil => intro acc s p; exact Nat.le_refl _
    | cons q ps ih =>
      intro acc s p
      obtain ⟨o, r⟩ := q
      have ha : (addR acc s p (r h)).length ≤ acc.length + 1 := by
        unfold addR; split
        · simp
        · split
          · omega
          · simp
      cases o with
      | none => have := ih (addR acc s p (r h)) s p; rw [List.length_cons]; exact Nat.le_trans this (by omega)
      | some l => have := ih (addR acc s p (r h)) (s + l) (p + l * r h); rw [List.length_cons]; exact Nat.le_trans this (by omega)
  have := key (lpcs l.rs) [] 0 0
  have h4 := k.r4
  unfold rowsL
  simp at this
  omega
abbrev sgL (l1 l2 : Lad) (h : Nat) : List SRow := signsL (rowsL l1.rs h) (rowsL l2.rs h)
theorem found_signs_ok {l1 l2 : Lad} {h : Nat} (k1 : l1.Ok) (k2 : l2.Ok) (h1 : h < l1.n) (h2 : h < l2.n) : F_found_signs [ld l1, ld l2, .int (h : Int)] = .ok (.list ((sgL l1 l2 h).map srD)) := by
  have f1 := found_bends_ok k1 h1
  have f2 := found_bends_ok k2 h2
  have s1 := rowsL_short k1 h
  have s2 := rowsL_short k2 h
  have B1 := Lad.rowsB k1 h
  have B2 := Lad.rowsB k2 h
  unfold sgL signsL
  generalize rowsL l1.rs h = r1 at *
  generalize rowsL l2.rs h = r2 at *
  have hxs : ∀ x ∈ (r1 ++ r2).map (·.1), Bd 24 x ∧ 0 ≤ x := fun x hx => by
    obtain ⟨b, hb, rfl⟩ := List.mem_map.mp hx
    rcases List.mem_append.mp hb with z | z
    · exact ⟨(B1.bd b z).1, B1.ok.nn b z⟩
    · exact ⟨(B2.bd b z).1, B2.ok.nn b z⟩
  have hio := in_order_ok (xs := (r1 ++ r2).map (·.1)) (fun x hx => (hxs x hx).1.mono (by decide)) (by rw [List.length_map, List.length_append]; omega)
  have hst : ∀ s ∈ inOrd ((r1 ++ r2).map (·.1)), Bd 24 s ∧ 0 ≤ s := fun s hs => hxs s (((inOrd_spec _).2 s).mp hs)
  have hlen := inOrd_len ((r1 ++ r2).map (·.1))
  rw [List.length_map, List.length_append] at hlen
  have hc : ∀ x0 x1 x2 x3 x4 x5 x6 x7 x8 x9 x10 x11 x13 : Option SV, cL (gN 12) bYes cE_found_signs_1 [x0, x1, x2, x3, x4, x5, x6, x7, x8, x9, x10, x11, none, x13] ((r1 ++ r2).map rowD) none = .ok (((r1 ++ r2).map (·.1)).map fr, none) := by
    intros
    rw [List.map_map]
    exact cL_map rowD _ _ fun b hb => ⟨_, by simp; rfl, by simp [cE_found_signs_1]⟩
  generalize hS : inOrd ((r1 ++ r2).map (·.1)) = starts at *
  obtain ⟨z7, z8, z9, z10, z11, z12, z13, hlp⟩ := signs_loop (x0 := some (.d (ld l1))) (x1 := some (.d (ld l2))) (x2 := some (.d (.int (h : Int)))) B1 B2 (fun s hs => (hst s hs).2) (fun s hs => (hst s hs).1) starts [] [] none none none none none none none rfl (by simp; omega)
  rw [List.map_append] at hc
  have hl3 : (r1.map rowD).length + (r2.map rowD).length ≤ 100000 := by simp; omega
  unfold F_found_signs
  simp only [B_found_signs]
  generalize hX : List.map fr (List.map (·.1) (r1 ++ r2)) = DX at *
  generalize hD1 : r1.map rowD = D1 at *
  generalize hD2 : r2.map rowD = D2 at *
  generalize hD3 : starts.map fr = D3 at *
  have hlp : fL (gTu 2 (gsCons (gN 7) (gsCons (gN 8) gsNil))) lB_found_signs_2 (enumD 0 D3) [some (.d (ld l1)), some (.d (ld l2)), some (.d (.int (h : Int))), some (.d (.list D1)), some (.d (.list D2)), some (.d (.list D3)), some (.own []), none, none, none, none, none, none, none] none = _ := hlp
  generalize hSg : List.map srD (sigGo r1 r2 starts []) = DS at *
  simp [f1, f2, hl3, wipeOk, hc, hio, hlp]
theorem signs_spec {l1 l2 : Lad} {h : Nat} (k1 : l1.Ok) (k2 : l2.Ok) : SInv (fun x => l2.T x h - l1.T x h) (sgL l1 l2 h) none := by
  have := signs_inv (Lad.rowsB k1 h).ok (Lad.rowsB k2 h).ok
  exact this.congr fun x hx => by
    rw [rows_pay k1.ok k1.ex hx, rows_pay k2.ok k2.ex hx]; rfl
/-! few bits -/
theorem sig_bd {r1 r2 : List Mx.Row} (k1 : RowsB r1) (k2 : RowsB r2) : ∀ (rest : List Rat) (acc : List SRow), (∀ s ∈ rest, Bd 24 s ∧ 0 ≤ s) → (∀ p ∈ acc, Bd 230 p.1) → ∀ p ∈ sigGo r1 r2 rest acc, Bd 230 p.1
  | [], acc, _, ha => ha
  | s :: rest, acc, hs, ha => by
    obtain ⟨sb, s0⟩ := hs s (by simp)
    obtain ⟨q1, m1, f1⟩ := k1.ok.fst
    obtain ⟨q2, m2, f2⟩ := k2.ok.fst
    have b1 := (payment_at_ok k1.bd s0 sb (by decide) f1 k1.len).2
    have b2 := (payment_at_ok k2.bd s0 sb (by decide) f2 k2.len).2
    have b3 := (rate_at_ok k1.bd s0 sb (by decide) f1 k1.len).2
    have b4 := (rate_at_ok k2.bd s0 sb (by decide) f2 k2.len).2
    have b5 := b2.sub b1
    have b6 := b4.sub b3
    have b7 := sb.add ((ab_bd b5).div (ab_bd b6) (by decide))
    refine sig_bd k1 k2 rest _ (fun t ht => hs t (List.mem_cons_of_mem _ ht)) ?_
    have hadd : ∀ (rows acc : List SRow), (∀ p ∈ acc, Bd 230 p.1) → (∀ p ∈ rows, Bd 230 p.1) → ∀ p ∈ rows.foldl addS acc, Bd 230 p.1 := by
      intro rows
      induction rows with
      | nil => intro acc h _; exact h
      | cons r rows ih =>
        intro acc h hr
        refine ih _ (fun p hp => ?_) fun p hp => hr p (List.mem_cons_of_mem _ hp)
        have : p ∈ acc ∨ p = r := by
          unfold addS at hp; split at hp
          · rcases List.mem_append.mp hp with z | z
            · exact .inl z
            · exact .inr (List.mem_singleton.mp z)
          · split at hp
            · exact .inl hp
            · rcases List.mem_append.mp hp with z | z
              · exact .inl z
              · exact .inr (List.mem_singleton.mp z)
        rcases this with z | z
        · exact h p z
        · rw [z]; exact hr r (by simp)
    refine hadd _ _ ha fun p hp => ?_
    unfold segR at hp; split at hp
    · rcases List.mem_cons.mp hp with z | z
      · rw [z]; exact sb.mono (by decide)
      · rw [List.mem_singleton.mp z]; exact b7.mono (by decide)
    · rw [List.mem_singleton.mp hp]; exact sb.mono (by decide)
theorem signs_bd {l1 l2 : Lad} {h : Nat} (k1 : l1.Ok) (k2 : l2.Ok) : ∀ p ∈ sgL l1 l2 h, Bd 230 p.1 := by
  have B1 := Lad.rowsB k1 h
  have B2 := Lad.rowsB k2 h
  refine sig_bd B1 B2 _ [] (fun s hs => ?_) fun p hp => by cases hp
  obtain ⟨b, hb, rfl⟩ := List.mem_map.mp (((inOrd_spec _).2 s).mp hs)
  rcases List.mem_append.mp hb with z | z
  · exact ⟨(B1.bd b z).1, B1.ok.nn b z⟩
  · exact ⟨(B2.bd b z).1, B2.ok.nn b z⟩
theorem sigGo_len (r1 r2 : List Mx.Row) : ∀ (rest : List Rat) (acc : List SRow), (sigGo r1 r2 rest acc).length ≤ acc.length + 2 * rest.length
  | [], acc => by simp [sigGo]
  | s :: rest, acc => by
    unfold sigGo
    have h1 := foldS_len (segR s (payR r2 s - payR r1 s) (rateR r2 s - rateR r1 s) rest.head?) acc
    have h2 := segR_len s (payR r2 s - payR r1 s) (rateR r2 s - rateR r1 s) rest.head?
    have := sigGo_len r1 r2 rest ((segR s (payR r2 s - payR r1 s) (rateR r2 s - rateR r1 s) rest.head?).foldl addS acc)
    rw [List.length_cons]
    omega
theorem signs_len {l1 l2 : Lad} {h : Nat} (k1 : l1.Ok) (k2 : l2.Ok) : (sgL l1 l2 h).length ≤ 160 := by
  have s1 := rowsL_short k1 h
  have s2 := rowsL_short k2 h
  have h1 := inOrd_len ((rowsL l1.rs h ++ rowsL l2.rs h).map (·.1))
  rw [List.length_map, List.length_append] at h1
  have := sigGo_len (rowsL l1.rs h) (rowsL l2.rs h) (inOrd ((rowsL l1.rs h ++ rowsL l2.rs h).map (·.1))) []
  unfold sgL signsL
  rw [List.length_nil, Nat.zero_add] at this
  omega
/-! where two ladders part -/
abbrev ptL (l1 l2 : Lad) : Option Rat := partL l1.n (sgL l1 l2)
theorem first_parting_ok {l1 l2 : Lad} (k1 : l1.Ok) (k2 : l2.Ok) (hn : l1.n = l2.n) : F_first_parting [ld l1, ld l2] = .ok (optD (ptL l1 l2)) := by
  have n5 := k1.n5
  obtain ⟨ρ', h1, y3, hl, rfl⟩ := fL_pre (W := none) (g := gN 3) (body := lB_first_parting_1) iD (fun pre ρ => ∃ y3, (pre.flatMap fun h => nzS (sgL l1 l2 h)).length ≤ 160 * pre.length ∧ ρ = [some (.d (ld l1)), some (.d (ld l2)), some (.own ((pre.flatMap fun h => nzS (sgL l1 l2 h)).map fr)), y3, none, none]) (List.range l1.n)
    [some (.d (ld l1)), some (.d (ld l2)), some (.own []), none, none, none] ⟨none, by simp, rfl⟩ (by
      rintro pre h post ρ e ⟨y3, hl, rfl⟩
      have hh : h < l1.n := List.mem_range.mp (by rw [e]; simp)
      have hpl : pre.length < l1.n := by
        have := congrArg List.length e
        rw [List.length_range, List.length_append, List.length_cons] at this
        omega
      have fs := found_signs_ok k1 k2 hh (by omega)
      have sl := signs_len (h := h) k1 k2
      have nl : (nzS (sgL l1 l2 h)).length ≤ 160 := by unfold nzS; rw [List.length_map]; exact Nat.le_trans (List.length_filter_le _ _) sl
      have ef : ((pre ++ [h]).flatMap fun h => nzS (sgL l1 l2 h)) = (pre.flatMap fun h => nzS (sgL l1 l2 h)) ++ nzS (sgL l1 l2 h) := by rw [List.flatMap_append]; simp
      have hc : ∀ x0 x1 x2 x3 : Option SV, cL (gTu 2 (gsCons (gN 4) (gsCons (gN 5) gsNil))) cC_first_parting_2 cE_first_parting_2 [x0, x1, x2, x3, none, none] ((sgL l1 l2 h).map srD) none = .ok ((nzS (sgL l1 l2 h)).map fr, none) := by
        intros
        unfold nzS
        rw [List.map_map]
        exact cL_ty srD _ _ _ fun p hp => ⟨_, by simp; rfl, by simp [cC_first_parting_2]; rfl, fun _ => by simp [cE_first_parting_2]⟩
      refine ⟨_, [some (.d (ld l1)), some (.d (ld l2)), some (.own (((pre ++ [h]).flatMap fun h => nzS (sgL l1 l2 h)).map fr)), some (.d (iD h)), none, none], by simp; rfl, ?_, some (.d (iD h)), ?_, rfl⟩
      · rw [ef, List.map_append]
        have hll : ((pre.flatMap fun h => nzS (sgL l1 l2 h)).map fr).length + ((nzS (sgL l1 l2 h)).map fr).length ≤ 100000 := by simp only [List.length_map]; omega
        have hs2 : ((sgL l1 l2 h).map srD).length ≤ 100000 := by simp only [List.length_map]; omega
        generalize (pre.flatMap fun h => nzS (sgL l1 l2 h)).map fr = D1 at *
        generalize (nzS (sgL l1 l2 h)).map fr = D2 at *
        generalize (sgL l1 l2 h).map srD = D3 at *
        simp [lB_first_parting_1, fs, wipeOk, hc, hs2, hll]
      · rw [ef, List.length_append, List.length_append, List.length_singleton]; omega)
  have h1 : fL (gN 3) lB_first_parting_1 ((List.range l1.n).map fun (i : Nat) => PyData.int (i : Int)) _ _ = _ := h1
  rw [List.length_range] at hl
  have hrng := rngOf_n (n := l1.n) (by omega)
  have hio := in_order_ok (xs := (List.range l1.n).flatMap fun h => nzS (sgL l1 l2 h)) (fun x hx => by
    obtain ⟨i, hi, hx⟩ := List.mem_flatMap.mp hx
    obtain ⟨p, hp, rfl⟩ := List.mem_map.mp hx
    exact (signs_bd k1 k2 p (List.mem_filter.mp hp).1).mono (by decide)) (by omega)
  have hnil := neD_nil (ds := ((List.range l1.n).flatMap fun h => nzS (sgL l1 l2 h)).map fr) (k := 1) (flts_map fun _ _ => flt_fr) (by decide)
  unfold ptL partL
  obtain ⟨o1, o2⟩ := inOrd_spec ((List.range l1.n).flatMap fun h => nzS (sgL l1 l2 h))
  unfold F_first_parting
  simp only [B_first_parting]
  generalize hX : ((List.range l1.n).flatMap fun h => nzS (sgL l1 l2 h)) = X at *
  cases hI : inOrd X with
  | nil =>
    have : X = [] := by
      cases X with
      | nil => rfl
      | cons a X => have := (o2 a).mpr (by simp); rw [hI] at this; cases this
    subst this
    have hnil : neD (.list []) (.list []) = some (.bool false) := hnil
    simp at h1
    simp [hrng, h1, hnil, optD]
  | cons t rest =>
    have hne : (X.map fr).isEmpty = false := by
      cases X with
      | nil => have := (o2 t).mp (by rw [hI]; simp); cases this
      | cons a X => rfl
    rw [hne] at hnil
    rw [hI] at hio
    generalize hD : X.map fr = D at *
    simp at hio
    simp [hrng, h1, hnil, hio, optD]
theorem check_both_ok {l1 l2 : Lad} (k1 : l1.Ok) (k2 : l2.Ok) : F_check_both [ld l1, ld l2] = .ok .none := by
  unfold F_check_both
  simp only [B_check_both]
  simp [check_ladder_ok k1, check_ladder_ok k2]
theorem check_like_ok {l1 l2 : Lad} (hn : l1.n = l2.n) : F_check_like [ld l1, ld l2] = .ok .none := by
  unfold F_check_like
  simp only [B_check_like]
  simp [hn]
theorem parting_after_ok {l1 l2 : Lad} (k1 : l1.Ok) (k2 : l2.Ok) (hn : l1.n = l2.n) : F_parting_after [ld l1, ld l2] = .ok (optD (ptL l1 l2)) := by
  unfold F_parting_after
  simp only [B_parting_after]
  simp [check_both_ok k1 k2, check_like_ok hn, first_parting_ok k1 k2 hn]
theorem are_alike_ok {l1 l2 : Lad} (k1 : l1.Ok) (k2 : l2.Ok) (hn : l1.n = l2.n) : F_are_alike [ld l1, ld l2] = .ok (.bool (ptL l1 l2).isNone) := by
  unfold F_are_alike
  simp only [B_are_alike]
  simp [check_both_ok k1 k2, check_like_ok hn, first_parting_ok k1 k2 hn]
theorem gains_ok {l1 l2 : Lad} {h : Nat} (k1 : l1.Ok) (k2 : l2.Ok) (hn : l1.n = l2.n) (hh : h < l1.n) : F_gains [ld l1, ld l2, .int (h : Int)] = .ok (.tuple ((sgL l1 l2 h).map srD)) := by
  unfold F_gains
  simp only [B_gains]
  simp [check_both_ok k1 k2, check_holder_ok hh, check_like_ok hn, found_signs_ok k1 k2 hh (by omega)]
theorem part_pt {l1 l2 : Lad} (k1 : l1.Ok) (k2 : l2.Ok) : PT (fun h x => l2.T x h - l1.T x h) l1.n (ptL l1 l2) ∧ ∀ i, i < l1.n → ∀ a ∈ nzS (sgL l1 l2 i), ∃ t, ptL l1 l2 = some t ∧ t ≤ a :=
  part_spec fun i _ => signs_spec k1 k2
theorem part_bd {l1 l2 : Lad} (k1 : l1.Ok) (k2 : l2.Ok) {t : Rat} (h : ptL l1 l2 = some t) : Bd 230 t := by
  unfold ptL partL at h
  have hm := List.mem_of_mem_head? h
  obtain ⟨i, hi, hx⟩ := List.mem_flatMap.mp (((inOrd_spec _).2 t).mp hm)
  obtain ⟨p, hp, rfl⟩ := List.mem_map.mp hx
  exact signs_bd k1 k2 p (List.mem_filter.mp hp).1
end Sx

namespace Sx
open PySem PySem.Spec PyProof.Rows L2 Mx
/-! equality of lists of data -/
theorem eqvAll_map {α : Type} {enc : α → Dt} (h : ∀ a b, PyData.eqv (enc a) (enc b) = true ↔ a = b) : ∀ xs ys : List α, PyData.eqvAll (xs.map enc) (ys.map enc) = true ↔ xs = ys
  | [], [] => ⟨fun _ => rfl, fun _ => rfl⟩
  | [], y :: ys => ⟨fun z => (by cases z), fun z => (by cases z)⟩
  | x :: xs, [] => ⟨fun z => (by cases z), fun z => (by cases z)⟩
  | x :: xs, y :: ys => by
    show (PyData.eqv (enc x) (enc y) && PyData.eqvAll (xs.map enc) (ys.map enc)) = true ↔ _
    rw [Bool.and_eq_true, h, eqvAll_map h xs ys]
    simp
theorem eqv_fr' (a b : Rat) : PyData.eqv (fr a) (fr b) = true ↔ a = b := by rw [eqv_fr]; simp
theorem rtL_map {n : Nat} {f : Nat → Rat} : rtL n f = ((List.range n).map f).map fr := by unfold rtL; rw [List.map_map]; rfl
theorem eqv_pays {n : Nat} {f g : Nat → Rat} : PyData.eqv (.tuple (rtL n f)) (.tuple (rtL n g)) = true ↔ ∀ i, i < n → f i = g i := by
  show PyData.eqvAll (rtL n f) (rtL n g) = true ↔ _
  rw [rtL_map, rtL_map, eqvAll_map eqv_fr']
  constructor
  · intro h i hi
    have := congrArg (fun l => l[i]?) h
    simpa [hi] using this
  · intro h
    refine List.map_congr_left fun i hi => h i (List.mem_range.mp hi)
theorem eqD_pays {n : Nat} {f g : Nat → Rat} : ∃ b, eqD (.tuple (rtL n f)) (.tuple (rtL n g)) = some (.bool b) ∧ (b = true ↔ ∀ i, i < n → f i = g i) := by
  refine ⟨PyData.eqv (.tuple (rtL n f)) (.tuple (rtL n g)), ?_, eqv_pays⟩
  unfold eqD
  rw [shaped_flt (k := 2) flt_tup (by decide), shaped_flt (k := 2) flt_tup (by decide)]
  rfl
theorem inB_frs {a : Rat} : ∀ xs : List Rat, inB (fr a) (xs.map fr) = xs.contains a
  | [] => rfl
  | x :: xs => by
    have ih := inB_frs (a := a) xs
    unfold inB at ih ⊢
    rw [List.map_cons, List.any_cons, ih, List.contains_cons, eqv_fr]
    congr 1
    rw [Bool.eq_iff_iff]; simp; exact eq_comm
theorem shaped_frs {xs : List Rat} : SeqAt.shaped (.list (xs.map fr)) = true := shaped_flt (k := 2) (show flts 1 (xs.map fr) = true from flts_map fun _ _ => flt_fr) (by decide)
theorem notInD_frs {a : Rat} {xs : List Rat} : notInD (fr a) (.list (xs.map fr)) = some (.bool (!xs.contains a)) := by
  show (if SeqAt.shaped (fr a) && SeqAt.shaped (.list (xs.map fr)) then some (PyData.bool (!inB (fr a) (xs.map fr))) else none) = _
  rw [shaped_frs, shaped_fr, inB_frs]
  rfl
/-! a ladder much like another one -/
theorem getLast?_drop {α : Type} {xs : List α} {n : Nat} (h : n < xs.length) : (xs.drop n).getLast? = xs.getLast? := by
  have e : xs.getLast? = (xs.take n ++ xs.drop n).getLast? := by rw [List.take_append_drop]
  rw [e, List.getLast?_append]
  cases hd : xs.drop n with
  | nil => have := congrArg List.length hd; rw [List.length_drop] at this; simp at this; omega
  | cons y ys => rw [List.getLast?_cons]; rfl
theorem law_other_ok {ns : List Int} {l : Lad} {m : Nat} {ws : List Dt} (hl : ns.length ≤ 63) (k : l.Ok) (t : Tn ns (m + 30) ws) :
    ∃ (l2 : Lad) (ws' : List Dt), F__law_other [scD ns, ld l] ws = .ok (ld l2, ws') ∧ l2.Ok ∧ l2.n = l.n ∧ Tn ns m ws' := by
  have n1 := k.n1
  have n5 := k.n5
  have r4 := k.r4
  have hlen0 : 0 < l.rs.length := List.length_pos_iff.mpr k.r1
  obtain ⟨at', ws1, e1, hat, t1⟩ := draw_ok (L := l.rs.length) (m := m + 29) hl hlen0 (Nat.lt_of_le_of_lt r4 (by decide)) t
  obtain ⟨way, ws2, e2, hway, t2⟩ := draw_ok (L := 4) (m := m + 28) hl (by decide) (by decide) t1
  obtain ⟨kd, ws3, e3, hkd, t3⟩ := draw_ok (L := 2) (m := m + 27) hl (by decide) (by decide) t2
  obtain ⟨r, ws4, e4, hr, _, t4⟩ := rung_draw (n := l.n) (kk := kd) (m := m) hl n1 n5 (by omega) (t3.mono (by omega))
  obtain ⟨r', ws5, e5, hr', hen, t5⟩ := rung_draw (n := l.n) (kk := 2) (m := m) hl n1 n5 (by omega) (t2.mono (by omega))
  have e2 : F__law_draw [scD ns, .int 4] ws1 = .ok (iD way, ws2) := e2
  have e3 : F__law_draw [scD ns, .int 2] ws2 = .ok (iD kd, ws3) := e3
  have e5 : F__law_rung [scD ns, iD l.n, .int 2] ws2 = .ok (rd r', ws5) := e5
  have hln : (l.rs.map rd).length = l.rs.length := List.length_map ..
  obtain ⟨en, hen1, hen2⟩ := k.en
  have hbase : ∀ rs : List Rung, rs ≠ [] → rs.length ≤ 4 → (∀ q ∈ rs, q ∈ l.rs ∨ q.Ok l.n) → (∃ q, rs.getLast? = some q ∧ q.endless = true) → Lad.Ok ⟨l.n, rs⟩ := fun rs h1 h2 h3 h4 =>
    ⟨n1, n5, h1, h2, fun q hq => by rcases h3 q hq with z | z; exact k.ok q z; exact z, h4⟩
  have hst : ∀ K : SS, sSeq (sAsgG (gTu 2 (gsCons (gN 3) (gsCons (gN 4) gsNil))) (eVar 2)) (sSeq (sAsg 5 (eCallT 1 F__law_draw (eVar 0) 1 (aCons (eCB lenD (aCons (eVar 4) aNil)) aNil))) (sSeq (sAsg 6 (eCallT 1 F__law_draw (eVar 0) 1 (aCons (eC (.int 4)) aNil))) K)) (startT 7 [scD ns, ld l]) (some ws) = K [some (.d (scD ns)), some .town, some (.d (ld l)), some (.d (iD l.n)), some (.d (.tuple (l.rs.map rd))), some (.d (iD at')), some (.d (iD way))] (some ws2) := fun K => by
    simp [e1, e2]
  have hcd : ∀ D : List Dt, cutD D (some ((at' : Int) + 1)) none = D.drop (at' + 1) := fun D => cutD_drop (n := at' + 1)
  have hcl : cutD (l.rs.map rd) none (some (-1)) = (l.rs.map rd).take (l.rs.length - 1) := by rw [cutD_last, hln]
  have s4 : min at' l.rs.length ≤ 99999 := by omega
  have s5 : min at' l.rs.length + 1 + (l.rs.length - at') ≤ 100000 := by omega
  have s6 : min at' l.rs.length + (l.rs.length - (at' + 1)) ≤ 100000 := by omega
  have s7 : min at' l.rs.length + 1 + (l.rs.length - (at' + 1)) ≤ 100000 := by omega
  have s8 : l.rs.length - 1 ≤ 99999 := by omega
  have hrun : ∀ (l2 : Lad) (ws' : List Dt), B__law_other (startT 7 [scD ns, ld l]) (some ws) = .rt (.d (ld l2)) (some ws') → F__law_other [scD ns, ld l] ws = .ok (ld l2, ws') := fun l2 ws' h => by
    unfold F__law_other
    rw [runT_s, h]
  by_cases c0 : way = 0 ∧ l.rs.length < 4
  · obtain ⟨hw, hlt⟩ := c0
    subst hw
    refine ⟨⟨l.n, l.rs.take at' ++ [r] ++ l.rs.drop at'⟩, ws4, hrun _ _ ?_, hbase _ (by simp) (by simp; omega) (fun q hq => ?_) ⟨en, ?_, hen2⟩, rfl, t4⟩
    · unfold B__law_other
      rw [hst]
      simp [e3, e4, show (l.rs.length : Int) < 4 by omega, cutD_take, cutD_drop, s4, s5, ld]
    · rcases List.mem_append.mp hq with z | z
      · rcases List.mem_append.mp z with w | w
        · exact .inl (List.mem_of_mem_take w)
        · rw [List.mem_singleton.mp w]; exact .inr hr
      · exact .inl (List.mem_of_mem_drop z)
    · rw [List.getLast?_append, getLast?_drop hat, hen1]; rfl
  · have g0 : (bAnd (bOf (eBin eqD (eVar 6) (eC (.int 0)))) (bOf (eBin ltD (eCB lenD (aCons (eVar 4) aNil)) (eC (.int 4))))) [some (.d (scD ns)), some .town, some (.d (ld l)), some (.d (iD l.n)), some (.d (.tuple (l.rs.map rd))), some (.d (iD at')), some (.d (iD way))] (some ws2) = .ok (false, some ws2) := by
      by_cases z : way = 0
      · have : ¬ l.rs.length < 4 := fun w => c0 ⟨z, w⟩
        simp [z, show ¬ (l.rs.length : Int) < 4 by omega] <;> omega
      · simp [show ¬ (way : Int) = 0 by omega]
        omega
    by_cases c1 : way = 1 ∧ 1 < l.rs.length ∧ at' + 1 < l.rs.length
    · obtain ⟨hw, hlt, hlt2⟩ := c1
      subst hw
      refine ⟨⟨l.n, l.rs.take at' ++ l.rs.drop (at' + 1)⟩, ws2, hrun _ _ ?_, hbase _ (fun z => ?_) (by simp; omega) (fun q hq => ?_) ⟨en, ?_, hen2⟩, rfl, t2.mono (by omega)⟩
      · unfold B__law_other
        rw [hst, sSeq_s, sIf_s, g0]
        simp [show (1 : Int) < (l.rs.length : Int) by omega, show (at' : Int) + 1 < (l.rs.length : Int) by omega, cutD_take, hcd, s6, ld]
      · have := congrArg List.length z
        simp at this
        omega
      · rcases List.mem_append.mp hq with z | z
        · exact .inl (List.mem_of_mem_take z)
        · exact .inl (List.mem_of_mem_drop z)
      · rw [List.getLast?_append, getLast?_drop hlt2, hen1]; rfl
    · have g1 : (bAnd (bOf (eBin eqD (eVar 6) (eC (.int 1)))) (bAnd (bOf (eBin gtD (eCB lenD (aCons (eVar 4) aNil)) (eC (.int 1)))) (bOf (eBin ltD (eBin addD (eVar 5) (eC (.int 1))) (eCB lenD (aCons (eVar 4) aNil)))))) [some (.d (scD ns)), some .town, some (.d (ld l)), some (.d (iD l.n)), some (.d (.tuple (l.rs.map rd))), some (.d (iD at')), some (.d (iD way))] (some ws2) = .ok (false, some ws2) := by
        by_cases z : way = 1
        · by_cases z2 : 1 < l.rs.length
          · have : ¬ at' + 1 < l.rs.length := fun w => c1 ⟨z, z2, w⟩
            simp [z, show (1 : Int) < (l.rs.length : Int) by omega, show ¬ (at' : Int) + 1 < (l.rs.length : Int) by omega] <;> omega
          · simp [z, show ¬ (1 : Int) < (l.rs.length : Int) by omega] <;> omega
        · simp [show ¬ (way : Int) = 1 by omega] <;> omega
      by_cases c2 : way = 2 ∧ at' + 1 < l.rs.length
      · obtain ⟨hw, hlt2⟩ := c2
        subst hw
        refine ⟨⟨l.n, l.rs.take at' ++ [r] ++ l.rs.drop (at' + 1)⟩, ws4, hrun _ _ ?_, hbase _ (by simp) (by simp; omega) (fun q hq => ?_) ⟨en, ?_, hen2⟩, rfl, t4⟩
        · unfold B__law_other
          rw [hst, sSeq_s, sIf_s, g0]
          simp [e3, e4, show (at' : Int) + 1 < (l.rs.length : Int) by omega, cutD_take, hcd, s4, s7, ld]
        · rcases List.mem_append.mp hq with z | z
          · rcases List.mem_append.mp z with w | w
            · exact .inl (List.mem_of_mem_take w)
            · rw [List.mem_singleton.mp w]; exact .inr hr
          · exact .inl (List.mem_of_mem_drop z)
        · rw [List.getLast?_append, getLast?_drop hlt2, hen1]; rfl
      · have g2 : (bAnd (bOf (eBin eqD (eVar 6) (eC (.int 2)))) (bOf (eBin ltD (eBin addD (eVar 5) (eC (.int 1))) (eCB lenD (aCons (eVar 4) aNil))))) [some (.d (scD ns)), some .town, some (.d (ld l)), some (.d (iD l.n)), some (.d (.tuple (l.rs.map rd))), some (.d (iD at')), some (.d (iD way))] (some ws2) = .ok (false, some ws2) := by
          by_cases z : way = 2
          · have : ¬ at' + 1 < l.rs.length := fun w => c2 ⟨z, w⟩
            simp [z, show ¬ (at' : Int) + 1 < (l.rs.length : Int) by omega] <;> omega
          · simp [show ¬ (way : Int) = 2 by omega] <;> omega
        refine ⟨⟨l.n, l.rs.take (l.rs.length - 1) ++ [r']⟩, ws5, hrun _ _ ?_, hbase _ (by simp) (by simp; omega) (fun q hq => ?_) ⟨r', by simp, hen rfl⟩, rfl, t5⟩
        · unfold B__law_other
          rw [hst, sSeq_s, sIf_s, g0]
          simp only [rOut, sPass_s, Bool.false_eq_true, if_false]
          rw [sSeq_s, sIf_s, g1]
          simp only [rOut, sPass_s, Bool.false_eq_true, if_false]
          rw [sSeq_s, sIf_s, g2]
          simp only [rOut, sPass_s, Bool.false_eq_true, if_false]
          simp [e5, hcl, s8, ld]
        · rcases List.mem_append.mp hq with z | z
          · exact .inl (List.mem_of_mem_take z)
          · rw [List.mem_singleton.mp z]; exact .inr hr'
end Sx

namespace Mx
/-- further starts -/
def addB (found : List Rat) (rows : List Row) : List Rat := found ++ (rows.map (·.1)).filter fun x => !found.contains x
def startsOf (ls : List Lad) : List (Lad × Nat) := ls.flatMap fun l => (List.range l.n).map fun h => (l, h)
def bendsOf (ls : List Lad) : List Rat := (startsOf ls).foldl (fun f p => addB f (rowsL p.1.rs p.2)) []
theorem addB_spec {found : List Rat} {rows : List Row} (h : found.Nodup) (c : Chn rows) : (addB found rows).Nodup ∧ ∀ x, x ∈ addB found rows ↔ x ∈ found ∨ x ∈ rows.map (·.1) := by
  have nd : (rows.map (·.1)).Nodup := by
    have := c.pw
    refine List.pairwise_map.mpr (this.imp fun z => ?_)
    grind
  constructor
  · unfold addB
    rw [List.nodup_append]
    refine ⟨h, nd.filter _, fun a ha b hb e => ?_⟩
    have := (List.mem_filter.mp hb).2
    rw [← e] at this
    simp at this
    exact this ha
  · intro x
    unfold addB
    rw [List.mem_append, List.mem_filter]
    constructor
    · rintro (z | z)
      · exact .inl z
      · exact .inr z.1
    · rintro (z | z)
      · exact .inl z
      · by_cases hx : x ∈ found
        · exact .inl hx
        · exact .inr ⟨z, by simpa using hx⟩
theorem bendsOf_go : ∀ (ps : List (Lad × Nat)) (acc : List Rat), (∀ p ∈ ps, p.1.Ok) → acc.Nodup →
    (ps.foldl (fun f p => addB f (rowsL p.1.rs p.2)) acc).Nodup ∧ ∀ x, x ∈ ps.foldl (fun f p => addB f (rowsL p.1.rs p.2)) acc ↔ x ∈ acc ∨ ∃ p ∈ ps, x ∈ (rowsL p.1.rs p.2).map (·.1)
  | [], acc, _, h => ⟨h, fun x => by simp⟩
  | p :: ps, acc, hk, h => by
    have k := hk p (by simp)
    obtain ⟨h1, h2⟩ := addB_spec h (rows_chain (h := p.2) k.ok k.ex)
    obtain ⟨h3, h4⟩ := bendsOf_go ps _ (fun q hq => hk q (List.mem_cons_of_mem _ hq)) h1
    refine ⟨h3, fun x => ?_⟩
    rw [List.foldl_cons, h4, h2]
    constructor
    · rintro ((z | z) | ⟨q, hq, z⟩)
      · exact .inl z
      · exact .inr ⟨p, by simp, z⟩
      · exact .inr ⟨q, List.mem_cons_of_mem _ hq, z⟩
    · rintro (z | ⟨q, hq, z⟩)
      · exact .inl (.inl z)
      · rcases List.mem_cons.mp hq with w | w
        · rw [w] at z; exact .inl (.inr z)
        · exact .inr ⟨q, w, z⟩
theorem mem_startsOf {ls : List Lad} {p : Lad × Nat} : p ∈ startsOf ls ↔ p.1 ∈ ls ∧ p.2 < p.1.n := by
  unfold startsOf
  rw [List.mem_flatMap]
  constructor
  · rintro ⟨l, hl, hp⟩
    obtain ⟨h, hh, rfl⟩ := List.mem_map.mp hp
    exact ⟨hl, List.mem_range.mp hh⟩
  · rintro ⟨h1, h2⟩
    exact ⟨p.1, h1, List.mem_map.mpr ⟨p.2, List.mem_range.mpr h2, rfl⟩⟩
theorem bendsOf_spec {ls : List Lad} (hk : ∀ l ∈ ls, l.Ok) : (bendsOf ls).Nodup ∧ ∀ x, x ∈ bendsOf ls ↔ ∃ l ∈ ls, ∃ h, h < l.n ∧ x ∈ (rowsL l.rs h).map (·.1) := by
  obtain ⟨h1, h2⟩ := bendsOf_go (startsOf ls) [] (fun p hp => hk p.1 (mem_startsOf.mp hp).1) .nil
  refine ⟨h1, fun x => ?_⟩
  rw [bendsOf, h2]
  constructor
  · rintro (z | ⟨p, hp, z⟩)
    · cases z
    · exact ⟨p.1, (mem_startsOf.mp hp).1, p.2, (mem_startsOf.mp hp).2, z⟩
  · rintro ⟨l, hl, h, hh, z⟩
    exact .inr ⟨(l, h), mem_startsOf.mpr ⟨hl, hh⟩, z⟩
end Mx
namespace Sx
open PySem PySem.Spec PyProof.Rows L2 Mx
theorem addB_len (found : List Rat) (rows : List Mx.Row) : (addB found rows).length ≤ found.length + rows.length := by
  unfold addB
  rw [List.length_append]
  have := List.length_filter_le (fun x => !found.contains x) (rows.map (·.1))
  rw [List.length_map] at this
  omega
theorem starts_in {x0 : Option SV} {l : Lad} (k : l.Ok) : ∀ (hs : List Nat) (acc : List Rat) (y3 : Option SV), (∀ h ∈ hs, h < l.n) → acc.length + 40 * hs.length ≤ 10000 →
    ∃ z3, fL (gN 3) lB__law_starts_2 (hs.map iD) [x0, some (.d (.list (acc.map fr))), some (.d (ld l)), y3, none] none =
      .nx [x0, some (.d (.list ((hs.foldl (fun f h => addB f (rowsL l.rs h)) acc).map fr))), some (.d (ld l)), z3, none] none
  | [], acc, y3, _, _ => ⟨_, rfl⟩
  | h :: hs, acc, y3, hh, hl => by
    rw [List.length_cons] at hl
    have h1 := hh h (by simp)
    have hb := bends_ok k h1
    have hr := rowsL_short k h
    have hal := addB_len acc (rowsL l.rs h)
    obtain ⟨z3, ih⟩ := starts_in (x0 := x0) k hs (addB acc (rowsL l.rs h)) (some (.d (iD h))) (fun j hj => hh j (List.mem_cons_of_mem _ hj)) (by omega)
    refine ⟨z3, ?_⟩
    rw [List.map_cons, fL_cons]
    have hc : ∀ x0 x2 x3 : Option SV, cL (gN 4) cC__law_starts_3 cE__law_starts_3 [x0, some (.d (.list (acc.map fr))), x2, x3, none] ((rowsL l.rs h).map rowD) none = .ok (((rowsL l.rs h).filter fun b => !acc.contains b.1).map (fun b => fr b.1), none) := by
      intros
      refine cL_ty rowD _ _ _ fun b hb => ⟨_, by simp; rfl, ?_, fun _ => by simp [cE__law_starts_3]⟩
      have := notInD_frs (a := b.1) (xs := acc)
      simp only [cC__law_starts_3]
      generalize acc.map fr = D at *
      simp [this]
    have ea : (addB acc (rowsL l.rs h)).map fr = acc.map fr ++ ((rowsL l.rs h).filter fun b => !acc.contains b.1).map (fun b => fr b.1) := by
      unfold addB
      rw [List.map_append, List.filter_map, List.map_map]
      rfl
    have eb : lB__law_starts_2 [x0, some (.d (.list (acc.map fr))), some (.d (ld l)), some (.d (iD h)), none] none = .nx [x0, some (.d (.list ((addB acc (rowsL l.rs h)).map fr))), some (.d (ld l)), some (.d (iD h)), none] none := by
      rw [ea]
      have hl1 : (acc.map fr).length + (((rowsL l.rs h).filter fun b => !acc.contains b.1).map (fun b => fr b.1)).length ≤ 100000 := by
        rw [← List.length_append, ← ea, List.length_map]; omega
      have hl2 : ((rowsL l.rs h).map rowD).length ≤ 100000 := by rw [List.length_map]; omega
      have hseq : seqOf (rowsD (rowsL l.rs h)) = some ((rowsL l.rs h).map rowD) := rfl
      generalize rowsD (rowsL l.rs h) = D0 at *
      generalize (((rowsL l.rs h).filter fun b => !acc.contains b.1).map (fun b => fr b.1)) = D1 at *
      generalize acc.map fr = D2 at *
      generalize (rowsL l.rs h).map rowD = D3 at *
      simp [lB__law_starts_2, hb, hseq, wipeOk, hl2, hc, hl1]
    simp only [gN_s, List.length_cons, List.length_nil, List.set_cons_succ, List.set_cons_zero]
    rw [if_pos (by omega)]
    simp only [eb]
    exact ih
theorem starts_out {x0 : Option SV} : ∀ (ls : List Lad) (acc : List Rat) (y2 y3 : Option SV), (∀ l ∈ ls, l.Ok) → acc.length + 200 * ls.length ≤ 9000 →
    ∃ z2 z3, fL (gN 2) lB__law_starts_1 (ls.map ld) [x0, some (.d (.list (acc.map fr))), y2, y3, none] none =
      .nx [x0, some (.d (.list (((startsOf ls).foldl (fun f p => addB f (rowsL p.1.rs p.2)) acc).map fr))), z2, z3, none] none
  | [], acc, y2, y3, _, _ => ⟨_, _, rfl⟩
  | l :: ls, acc, y2, y3, hk, hl => by
    rw [List.length_cons] at hl
    have k := hk l (by simp)
    have n5 := k.n5
    obtain ⟨z3, h1⟩ := starts_in (x0 := x0) k (List.range l.n) acc y3 (fun h hh => List.mem_range.mp hh) (by rw [List.length_range]; omega)
    have hfold : ∀ (hs : List Nat) (acc : List Rat), (hs.foldl (fun f h => addB f (rowsL l.rs h)) acc).length ≤ acc.length + 40 * hs.length := by
      intro hs
      induction hs with
      | nil => intro acc; simp
      | cons h hs ih =>
        intro acc
        rw [List.foldl_cons, List.length_cons]
        have a1 := ih (addB acc (rowsL l.rs h))
        have a2 := addB_len acc (rowsL l.rs h)
        have a3 := rowsL_short k h
        omega
    have hf := hfold (List.range l.n) acc
    rw [List.length_range] at hf
    obtain ⟨w2, w3, ih⟩ := starts_out (x0 := x0) ls ((List.range l.n).foldl (fun f h => addB f (rowsL l.rs h)) acc) (some (.d (ld l))) z3 (fun j hj => hk j (List.mem_cons_of_mem _ hj)) (by omega)
    refine ⟨w2, w3, ?_⟩
    have es : (startsOf (l :: ls)).foldl (fun f p => addB f (rowsL p.1.rs p.2)) acc = (startsOf ls).foldl (fun f p => addB f (rowsL p.1.rs p.2)) ((List.range l.n).foldl (fun f h => addB f (rowsL l.rs h)) acc) := by
      unfold startsOf
      rw [List.flatMap_cons, List.foldl_append, List.foldl_map]
    rw [es, List.map_cons, fL_cons]
    have hrng := rngOf_n (n := l.n) (by omega)
    have h1 : fL (gN 3) lB__law_starts_2 ((List.range l.n).map fun (i : Nat) => PyData.int (i : Int)) _ _ = _ := h1
    have eb : lB__law_starts_1 [x0, some (.d (.list (acc.map fr))), some (.d (ld l)), y3, none] none = .nx [x0, some (.d (.list (((List.range l.n).foldl (fun f h => addB f (rowsL l.rs h)) acc).map fr))), some (.d (ld l)), z3, none] none := by
      generalize ((List.range l.n).foldl (fun f h => addB f (rowsL l.rs h)) acc).map fr = D1 at *
      generalize acc.map fr = D2 at *
      simp [lB__law_starts_1, hrng, h1]
    simp only [gN_s, List.length_cons, List.length_nil, List.set_cons_succ, List.set_cons_zero]
    rw [if_pos (by omega)]
    simp only [eb]
    exact ih
theorem law_starts_ok {ls : List Lad} (hk : ∀ l ∈ ls, l.Ok) (hl : ls.length ≤ 4) : F__law_starts [.list (ls.map ld)] = .ok (.list ((sortL (bendsOf ls)).map fr)) := by
  obtain ⟨z2, z3, h1⟩ := starts_out (x0 := some (.d (.list (ls.map ld)))) ls [] none none hk (by simp; omega)
  have hb : ∀ x ∈ bendsOf ls, Bd 4000 x := fun x hx => by
    obtain ⟨l, hl, h, hh, hx⟩ := ((bendsOf_spec hk).2 x).mp hx
    obtain ⟨b, hb, rfl⟩ := List.mem_map.mp hx
    exact (rowsL_bd (hk l hl) h b hb).1.mono (by decide)
  have hlen : (bendsOf ls).length ≤ 1000 := by
    have key : ∀ (ps : List (Lad × Nat)) (acc : List Rat), (∀ p ∈ ps, p.1.Ok) → (ps.foldl (fun f p => addB f (rowsL p.1.rs p.2)) acc).length ≤ acc.length + 40 * ps.length := by
      intro ps
      induction ps with
      | nil => intro acc _; simp
      | cons p ps ih =>
        intro acc hp
        rw [List.foldl_cons, List.length_cons]
        have a1 := ih (addB acc (rowsL p.1.rs p.2)) fun q hq => hp q (List.mem_cons_of_mem _ hq)
        have a2 := addB_len acc (rowsL p.1.rs p.2)
        have a3 := rowsL_short (hp p (by simp)) p.2
        omega
    have h2 := key (startsOf ls) [] fun p hp => hk p.1 (mem_startsOf.mp hp).1
    have h3 : ∀ ls : List Lad, (∀ l ∈ ls, l.Ok) → (startsOf ls).length ≤ 5 * ls.length := by
      intro ls
      induction ls with
      | nil => intro _; simp [startsOf]
      | cons l ls ih =>
        intro hk
        have a1 := ih fun q hq => hk q (List.mem_cons_of_mem _ hq)
        have a2 := (hk l (by simp)).n5
        unfold startsOf at a1 ⊢
        rw [List.flatMap_cons, List.length_append, List.length_map, List.length_range, List.length_cons]
        omega
    have h4 := h3 ls hk
    unfold bendsOf
    simp only [List.length_nil] at h2
    omega
  have hs := law_sorted_ok hb hlen
  have h1 : fL (gN 2) lB__law_starts_1 (ls.map ld) [some (.d (.list (ls.map ld))), some (.d (.list [])), none, none, none] none = .nx [some (.d (.list (ls.map ld))), some (.d (.list ((bendsOf ls).map fr))), z2, z3, none] none := h1
  unfold F__law_starts
  simp only [B__law_starts]
  generalize (bendsOf ls).map fr = D1 at *
  generalize ls.map ld = D2 at *
  simp [h1, hs]
end Sx

namespace Mx
theorem list_max : ∀ (L : List Rat), L ≠ [] → ∃ m ∈ L, ∀ u ∈ L, u ≤ m
  | [], h => absurd rfl h
  | [a], _ => ⟨a, by simp, fun u hu => by rw [List.mem_singleton.mp hu]; exact Rat.le_refl⟩
  | a :: b :: L, _ => by
    obtain ⟨m, h1, h2⟩ := list_max (b :: L) (by simp)
    by_cases h : a ≤ m
    · exact ⟨m, List.mem_cons_of_mem _ h1, fun u hu => by rcases List.mem_cons.mp hu with z | z; rw [z]; exact h; exact h2 u z⟩
    · exact ⟨a, by simp, fun u hu => by
        rcases List.mem_cons.mp hu with z | z
        · rw [z]; exact Rat.le_refl
        · have := h2 u z; grind⟩
theorem last_below {S : List Rat} {x : Rat} (h0 : 0 ∈ S) (hx : 0 < x) : ∃ s ∈ S, 0 ≤ s ∧ s < x ∧ ∀ u ∈ S, u ≤ s ∨ x ≤ u := by
  have hm : (0 : Rat) ∈ S.filter fun u => decide (u < x) := List.mem_filter.mpr ⟨h0, by simpa using hx⟩
  obtain ⟨m, h1, h2⟩ := list_max (S.filter fun u => decide (u < x)) (fun z => by rw [z] at hm; cases hm)
  obtain ⟨a1, a2⟩ := List.mem_filter.mp h1
  refine ⟨m, a1, h2 0 hm, by simpa using a2, fun u hu => ?_⟩
  by_cases hux : u < x
  · exact .inl (h2 u (List.mem_filter.mpr ⟨hu, by simpa using hux⟩))
  · exact .inr (Rat.not_lt.mp hux)
/-- a line with the sign 0 directly after its begin is 0 -/
theorem lin_zero {D : Rat → Rat} {s x σ : Rat} (hsx : s < x) (hD : ∀ y, s ≤ y → y ≤ x → D y = D s + σ * (y - s)) (h : RS D s 0) : D s = 0 ∧ σ = 0 := by
  obtain ⟨e, he, hz⟩ := h
  obtain ⟨m, m1, m2, m3⟩ : ∃ m, s < m ∧ m ≤ e ∧ m ≤ x := by
    by_cases z : e ≤ x
    · exact ⟨e, he, by grind, z⟩
    · exact ⟨x, hsx, by grind, by grind⟩
  obtain ⟨a1, a2⟩ := mid m1
  obtain ⟨b1, b2⟩ := mid a2
  generalize (s + m) / 2 = p at *
  generalize (p + m) / 2 = q at *
  have h1 := sgn_eq0.mp (hz p a1 (by grind))
  have h2 := sgn_eq0.mp (hz q (by grind) (by grind))
  rw [hD p (by grind) (by grind)] at h1
  rw [hD q (by grind) (by grind)] at h2
  have h3 : σ * (q - p) = 0 := by grind
  have h4 : σ = 0 := by
    rcases Rat.mul_eq_zero.mp h3 with z | z
    · exact z
    · grind
  exact ⟨by rw [h4] at h1; grind, h4⟩
theorem zero_upto {D : Rat → Rat} {S : List Rat} {t : Rat} (pl : PL D S) (h0 : 0 ∈ S) (hz : D 0 = 0) (h : ∀ x, 0 ≤ x → x < t → RS D x 0) : ∀ x, 0 ≤ x → x ≤ t → D x = 0 := fun x hx hxt => by
  by_cases hx0 : x = 0
  · rw [hx0]; exact hz
  · obtain ⟨s, _, s0, s1, s2⟩ := last_below h0 (show 0 < x by grind)
    obtain ⟨σ, hD⟩ := pl s x s0 s1 s2
    obtain ⟨h1, h2⟩ := lin_zero s1 hD (h s s0 (by grind))
    rw [hD x (by grind) Rat.le_refl, h1, h2]
    grind
theorem lin_nz {D : Rat → Rat} {S : List Rat} {t a : Rat} {s : Int} (pl : PL D S) (ht : 0 ≤ t) (hta : t < a) (hS : ∀ u ∈ S, u ≤ t ∨ a ≤ u) (hz : D t = 0) (hs : s ≠ 0) (h : RS D t s) : ∀ y, t < y → y ≤ a → D y ≠ 0 := fun y h1 h2 => by
  obtain ⟨σ, hD⟩ := pl t a ht hta hS
  have hσ : σ ≠ 0 := fun z => by
    refine hs (h.uniq ⟨a, hta, fun w w1 w2 => sgn_eq0.mpr ?_⟩)
    rw [hD w (by grind) (by grind), hz, z]; grind
  rw [hD y (by grind) h2, hz]
  intro z
  have : σ * (y - t) = 0 := by grind
  rcases Rat.mul_eq_zero.mp this with w | w
  · exact hσ w
  · grind
/-! of two ladders -/
abbrev DD (l1 l2 : Lad) (h : Nat) (x : Rat) : Rat := l2.T x h - l1.T x h
abbrev SS2 (l1 l2 : Lad) (h : Nat) : List Rat := (rowsL l1.rs h ++ rowsL l2.rs h).map (·.1)
theorem PL.congr {D E : Rat → Rat} {S : List Rat} (p : PL D S) (e : ∀ x, 0 ≤ x → E x = D x) : PL E S := fun m n hm hmn hS => by
  obtain ⟨σ, h⟩ := p m n hm hmn hS
  exact ⟨σ, fun y h1 h2 => by rw [e y (by grind), e m hm]; exact h y h1 h2⟩
end Mx
namespace Sx
open PySem PySem.Spec PyProof.Rows L2 Mx
theorem dd_pl {l1 l2 : Lad} (k1 : l1.Ok) (k2 : l2.Ok) (h : Nat) : PL (DD l1 l2 h) (SS2 l1 l2 h) :=
  (pl_rows (Lad.rowsB k1 h).ok (Lad.rowsB k2 h).ok).congr fun x hx => by
    rw [rows_pay k1.ok k1.ex hx, rows_pay k2.ok k2.ex hx]; rfl
theorem dd_0 {l1 l2 : Lad} (k1 : l1.Ok) (h : Nat) : (0 : Rat) ∈ SS2 l1 l2 h := by
  obtain ⟨r, m, hf⟩ := rows_first (h := h) k1.ok k1.ex
  unfold SS2; rw [hf]; simp
theorem dd_z {l1 l2 : Lad} (k1 : l1.Ok) (k2 : l2.Ok) (h : Nat) : DD l1 l2 h 0 = 0 := by
  unfold DD; rw [k1.zero, k2.zero]; grind
/-- up to where they part, two ladders pay the same -/
theorem part_same {l1 l2 : Lad} (k1 : l1.Ok) (k2 : l2.Ok) {x : Rat} (hx : 0 ≤ x) (h : ∀ t, ptL l1 l2 = some t → x ≤ t) : ∀ i, i < l1.n → l1.T x i = l2.T x i := fun i hi => by
  have hp := (part_pt k1 k2).1
  have : DD l1 l2 i x = 0 := by
    cases ho : ptL l1 l2 with
    | none =>
      rw [ho] at hp
      exact zero_upto (t := x) (dd_pl k1 k2 i) (dd_0 k1 i) (dd_z k1 k2 i) (fun y hy _ => hp i hi y hy) x hx Rat.le_refl
    | some t =>
      rw [ho] at hp
      obtain ⟨t0, h1, _⟩ := hp
      exact zero_upto (t := t) (dd_pl k1 k2 i) (dd_0 k1 i) (dd_z k1 k2 i) (fun y hy hyt => h1 i hi y hy hyt) x hx (h t ho)
  unfold DD at this
  grind
/-- and directly after it they don't -/
theorem part_not {l1 l2 : Lad} (k1 : l1.Ok) (k2 : l2.Ok) {t a y : Rat} (ho : ptL l1 l2 = some t) (hta : t < a) (hS : ∀ i, i < l1.n → ∀ u ∈ SS2 l1 l2 i, u ≤ t ∨ a ≤ u) (h1 : t < y) (h2 : y ≤ a) : ¬ ∀ i, i < l1.n → l1.T y i = l2.T y i := fun hall => by
  have hp := (part_pt k1 k2).1
  rw [ho] at hp
  obtain ⟨t0, h3, i, hi, s, hs, hr⟩ := hp
  have hz : DD l1 l2 i t = 0 := zero_upto (t := t) (dd_pl k1 k2 i) (dd_0 k1 i) (dd_z k1 k2 i) (fun y hy hyt => h3 i hi y hy hyt) t t0 Rat.le_refl
  refine lin_nz (dd_pl k1 k2 i) t0 hta (hS i hi) hz hs hr y h1 h2 ?_
  unfold DD
  rw [hall i hi]
  grind
theorem part_swap {l1 l2 : Lad} (k1 : l1.Ok) (k2 : l2.Ok) (hn : l1.n = l2.n) : ptL l2 l1 = ptL l1 l2 := by
  have h1 := (part_pt k2 k1).1
  have h2 := (part_pt k1 k2).1.opp
  rw [← hn] at h1
  exact h1.uniq (h2.congr fun h _ x _ => by grind)
theorem part_none {l1 l2 : Lad} (k1 : l1.Ok) (k2 : l2.Ok) (h : ∀ i, i < l1.n → ∀ x, 0 ≤ x → l1.T x i = l2.T x i) : ptL l1 l2 = none := by
  refine (part_pt k1 k2).1.uniq (o' := none) fun i hi x hx => ⟨x + 1, by grind, fun y h1 h2 => sgn_eq0.mpr ?_⟩
  simp only; rw [h i hi y (by grind)]; grind
theorem part_self {l : Lad} (k : l.Ok) : ptL l l = none := part_none k k fun _ _ _ _ => rfl
@[simp] theorem shaped_optD {o : Option Rat} : SeqAt.shaped (optD o) = true := by cases o; rfl; exact shaped_fr
theorem eqv_opt {o : Option Rat} : PyData.eqv (optD o) (optD o) = true := by cases o; rfl; rw [optD, eqv_fr]; simp
@[simp] theorem neD_opt {o : Option Rat} : neD (optD o) (optD o) = some (.bool false) := by unfold neD; rw [shaped_optD, eqv_opt]; rfl
@[simp] theorem isD_tt : isD (.bool true) (.bool true) = some (.bool true) := by rfl
/-! points between starts -/
def trip (s a : Rat) : List Rat := [s + (a - s) * 0, s + (a - s) * mkRat 1 3, s + (a - s) * mkRat 1 2]
def nextS (s : Rat) : List Rat → Rat
  | [] => s + 9
  | t :: _ => t
def ptsGo : List Rat → List Rat
  | [] => []
  | s :: rest => trip s (nextS s rest) ++ ptsGo rest
theorem trip_in {s a : Rat} (h : s < a) : (∀ p ∈ trip s a, s ≤ p ∧ p < a) ∧ (trip s a).Pairwise (· ≤ ·) := by
  have h3 : (0 : Rat) < mkRat 1 3 ∧ mkRat 1 3 < (mkRat 1 2 : Rat) ∧ mkRat 1 2 < (1 : Rat) := ⟨by decide, by decide, by decide⟩
  have ha : 0 < a - s := by grind
  have m1 := Rat.mul_lt_mul_of_pos_left h3.1 ha
  have m2 := Rat.mul_lt_mul_of_pos_left h3.2.1 ha
  have m3 := Rat.mul_lt_mul_of_pos_left h3.2.2 ha
  refine ⟨fun p hp => ?_, ?_⟩
  · unfold trip at hp
    simp only [List.mem_cons, List.not_mem_nil, or_false] at hp
    rcases hp with z | z | z <;> rw [z] <;> constructor <;> grind
  · unfold trip
    simp only [List.pairwise_cons, List.mem_cons, List.not_mem_nil, or_false]
    refine ⟨fun q hq => ?_, fun q hq => ?_, fun q hq => hq.elim, .nil⟩
    · rcases hq with z | z <;> rw [z] <;> grind
    · rw [hq]; grind
theorem nextS_lt {s : Rat} {rest : List Rat} (h : (s :: rest).Pairwise (· < ·)) : s < nextS s rest := by
  cases rest with
  | nil => unfold nextS; grind
  | cons t rest => exact (List.pairwise_cons.mp h).1 t (by simp)
theorem ptsGo_spec : ∀ {starts : List Rat}, starts.Pairwise (· < ·) → (ptsGo starts).Pairwise (· ≤ ·) ∧ (∀ s ∈ starts, s ∈ ptsGo starts) ∧ (∀ p ∈ ptsGo starts, ∃ s, starts.head? = some s ∧ s ≤ p)
  | [], _ => ⟨.nil, fun s h => (by cases h), fun s h => (by cases h)⟩
  | s :: rest, h => by
    obtain ⟨h1, h2⟩ := List.pairwise_cons.mp h
    obtain ⟨i1, i2, i3⟩ := ptsGo_spec h2
    obtain ⟨t1, t2⟩ := trip_in (nextS_lt h)
    have hnx : ∀ p ∈ ptsGo rest, nextS s rest ≤ p := fun p hp => by
      obtain ⟨u, hu, hup⟩ := i3 p hp
      cases rest with
      | nil => cases hu
      | cons t rest => cases hu; exact hup
    refine ⟨?_, fun u hu => ?_, fun p hp => ⟨s, rfl, ?_⟩⟩
    · show (trip s (nextS s rest) ++ ptsGo rest).Pairwise _
      rw [List.pairwise_append]
      exact ⟨t2, i1, fun a ha b hb => by have := (t1 a ha).2; have := hnx b hb; grind⟩
    · show u ∈ trip s (nextS s rest) ++ ptsGo rest
      rcases List.mem_cons.mp hu with z | z
      · rw [z]
        refine List.mem_append_left _ ?_
        unfold trip
        rw [show s + (nextS s rest - s) * 0 = s by grind]
        simp
      · exact List.mem_append_right _ (i2 u z)
    · rcases List.mem_append.mp hp with z | z
      · exact (t1 p z).1
      · have := hnx p z; have := nextS_lt h; grind
theorem bd9 : Bd 4 (9 : Rat) := ⟨by decide, by decide⟩
theorem nextS_bd {s : Rat} {rest : List Rat} (h : ∀ u ∈ s :: rest, Bd 24 u) : Bd 29 (nextS s rest) := by
  cases rest with
  | nil => exact ((h s (by simp)).add bd9).mono (by decide)
  | cons t rest => exact (h t (by simp)).mono (by decide)
theorem trip_bd {s a : Rat} (hs : Bd 24 s) (ha : Bd 29 a) : ∀ p ∈ trip s a, Bd 90 p := fun p hp => by
  have g := ha.sub hs
  unfold trip at hp
  simp only [List.mem_cons, List.not_mem_nil, or_false] at hp
  rcases hp with z | z | z <;> rw [z]
  · exact (hs.add (g.mul (show Bd 2 (0 : Rat) from ⟨by decide, by decide⟩))).mono (by decide)
  · exact (hs.add (g.mul (show Bd 2 (mkRat 1 3) from ⟨by decide, by decide⟩))).mono (by decide)
  · exact (hs.add (g.mul (show Bd 2 (mkRat 1 2) from ⟨by decide, by decide⟩))).mono (by decide)
theorem ptsGo_bd : ∀ {starts : List Rat}, (∀ u ∈ starts, Bd 24 u) → ∀ p ∈ ptsGo starts, Bd 90 p
  | [], _, p, hp => by cases hp
  | s :: rest, h, p, hp => by
    rcases List.mem_append.mp hp with z | z
    · exact trip_bd (h s (by simp)) (nextS_bd h) p z
    · exact ptsGo_bd (fun u hu => h u (List.mem_cons_of_mem _ hu)) p z
theorem ptsGo_len : ∀ starts : List Rat, (ptsGo starts).length = 3 * starts.length
  | [] => rfl
  | s :: rest => by show (trip s (nextS s rest) ++ ptsGo rest).length = _; rw [List.length_append, ptsGo_len rest]; simp [trip]; omega
end Sx

namespace Mx
theorem lin_sgn {D : Rat → Rat} {m n σ : Rat} {s : Int} (hD : ∀ y, m ≤ y → y ≤ n → D y = D m + σ * (y - m)) (h : ∀ y, m ≤ y → y < n → RS D y s) {x : Rat} (h1 : m < x) (h2 : x < n) : sgn (D x) = s := by
  have pick : ∀ a b, m ≤ a → a < b → b ≤ n → ∃ y, a < y ∧ y < b ∧ sgn (D y) = s := fun a b ha hab hb => by
    obtain ⟨e, he, hz⟩ := h a ha (by grind)
    by_cases z : e ≤ b
    · obtain ⟨p1, p2⟩ := mid he
      exact ⟨_, p1, by grind, hz _ p1 p2⟩
    · obtain ⟨p1, p2⟩ := mid hab
      exact ⟨_, p1, p2, hz _ p1 (by grind)⟩
  obtain ⟨y1, a1, a2, a3⟩ := pick m x Rat.le_refl h1 (by grind)
  obtain ⟨y2, b1, b2, b3⟩ := pick x n (by grind) h2 Rat.le_refl
  rw [hD y1 (by grind) (by grind)] at a3
  rw [hD y2 (by grind) (by grind)] at b3
  rw [hD x (by grind) (by grind)]
  have k1 : 0 < x - y1 := by grind
  have k2 : 0 < y2 - x := by grind
  have e1 : D m + σ * (x - m) = D m + σ * (y1 - m) + σ * (x - y1) := by grind
  have e2 : D m + σ * (y2 - m) = D m + σ * (x - m) + σ * (y2 - x) := by grind
  rcases sgn_cases σ with ⟨c1, _⟩ | ⟨c1, _⟩ | ⟨c1, _⟩
  · have m1 := mul_pp c1 k1
    have m2 := mul_pp c1 k2
    generalize D m + σ * (x - m) = u at *
    generalize D m + σ * (y1 - m) = v at *
    generalize D m + σ * (y2 - m) = w at *
    rcases sgn_cases v with ⟨d1, d2⟩ | ⟨d1, d2⟩ | ⟨d1, d2⟩
    · rw [← a3, d2]; exact sgn_pos (by grind)
    · rw [← a3, d2] at b3 ⊢; have := sgn_eqm.mp b3; exact sgn_neg (by grind)
    · rw [← a3, d2] at b3; have := sgn_eq0.mp b3; grind
  · have m1 := mul_pp (a := -σ) (by grind) k1
    have m2 := mul_pp (a := -σ) (by grind) k2
    have n1 : -σ * (x - y1) = -(σ * (x - y1)) := by grind
    have n2 : -σ * (y2 - x) = -(σ * (y2 - x)) := by grind
    generalize D m + σ * (x - m) = u at *
    generalize D m + σ * (y1 - m) = v at *
    generalize D m + σ * (y2 - m) = w at *
    rcases sgn_cases v with ⟨d1, d2⟩ | ⟨d1, d2⟩ | ⟨d1, d2⟩
    · rw [← a3, d2] at b3 ⊢; have := sgn_eq1.mp b3; exact sgn_pos (by grind)
    · rw [← a3, d2]; exact sgn_neg (by grind)
    · rw [← a3, d2] at b3; have := sgn_eq0.mp b3; grind
  · rw [c1] at a3 ⊢
    rw [← a3]
    congr 1
    grind
theorem ChS.tail {D : Rat → Rat} : ∀ {pre post : List SRow} {a b : SRow}, ChS D (pre ++ a :: b :: post) → NbS D a b
  | [], _, _, _, k => k.1
  | [c], _, _, _, k => k.2.1
  | c :: d :: pre, post, a, b, k => ChS.tail (pre := d :: pre) k.2
def Lip (D : Rat → Rat) : Prop := ∀ x y, 0 ≤ x → x ≤ y → D y - D x ≤ y - x ∧ -(y - x) ≤ D y - D x
/-- where the sign changes from one side to the other, the gain is 0 -/
theorem cross_zero {D : Rat → Rat} {p q : SRow} (hL : Lip D) (hp0 : 0 ≤ p.1) (nb : NbS D p q) (hq : RS D q.1 q.2) : p.2 * q.2 ≠ 0 → D q.1 = 0 := fun hm => by
  refine Classical.byContradiction fun hc => ?_
  have hp : p.2 ≠ 0 := fun z => hm (by rw [z]; omega)
  have hqz : q.2 ≠ 0 := fun z => hm (by rw [z]; omega)
  obtain ⟨c, hcd⟩ : ∃ c, c = ab (D q.1) := ⟨_, rfl⟩
  have hcp : 0 < c := by rw [hcd]; exact ab_pos hc
  have near : ∀ z, 0 ≤ z → q.1 - c < z → z < q.1 + c → sgn (D z) = sgn (D q.1) := fun z hz0 h1 h2 => by
    have h3 : D z - D q.1 < c ∧ -c < D z - D q.1 := by
      by_cases hzq : z ≤ q.1
      · have := hL z q.1 hz0 hzq; constructor <;> grind
      · have := hL q.1 z (by have := nb.1; grind) (by grind); constructor <;> grind
    rcases sgn_cases (D q.1) with ⟨d1, d2⟩ | ⟨d1, d2⟩ | ⟨d1, d2⟩
    · rw [ab_p d1] at hcd; rw [d2]; exact sgn_pos (by grind)
    · rw [ab_n d1] at hcd; rw [d2]; exact sgn_neg (by grind)
    · exact absurd d1 hc
  -- to the right
  have hr : q.2 = sgn (D q.1) := by
    refine hq.uniq ⟨q.1 + c, by grind, fun y h1 h2 => near y (by have := nb.1; grind) (by grind) h2⟩
  -- to the left
  obtain ⟨a, a1, a2, a3⟩ : ∃ a, p.1 ≤ a ∧ q.1 - c ≤ a ∧ a < q.1 := by
    by_cases z : p.1 ≤ q.1 - c
    · exact ⟨q.1 - c, z, Rat.le_refl, by grind⟩
    · exact ⟨p.1, Rat.le_refl, by grind, nb.1⟩
  have hl : p.2 = sgn (D q.1) := by
    refine (nb.2.2 a a1 a3).uniq ⟨q.1, a3, fun y h1 h2 => near y (by grind) (by grind) (by grind)⟩
  exact nb.2.1 (hl.trans hr.symm)
theorem RS.range {D : Rat → Rat} {x : Rat} {s : Int} (h : RS D x s) : s = 1 ∨ s = -1 ∨ s = 0 := by
  obtain ⟨e, he, hz⟩ := h
  obtain ⟨m1, m2⟩ := mid he
  have := hz _ m1 m2
  rcases sgn_cases (D ((x + e) / 2)) with ⟨_, d⟩ | ⟨_, d⟩ | ⟨_, d⟩
  · exact .inl (by rw [← this, d])
  · exact .inr (.inl (by rw [← this, d]))
  · exact .inr (.inr (by rw [← this, d]))
end Mx
namespace Sx
open PySem PySem.Spec PyProof.Rows L2 Mx
theorem dd_lip {l1 l2 : Lad} (k1 : l1.Ok) (k2 : l2.Ok) {h : Nat} (h1 : h < l1.n) (h2 : h < l2.n) : Lip (DD l1 l2 h) := fun x y hx hxy => by
  have a1 := k1.mono hx hxy h
  have a2 := k2.mono hx hxy h
  have b1 := k1.lip hx hxy h1
  have b2 := k2.lip hx hxy h2
  unfold DD
  constructor <;> grind
theorem signs_swap {l1 l2 : Lad} {h : Nat} (k1 : l1.Ok) (k2 : l2.Ok) : sgL l2 l1 h = oppS (sgL l1 l2 h) := by
  refine (signs_spec k2 k1).uniq ((signs_spec k1 k2).opp.congr fun x _ => ?_)
  grind
theorem signs_self {l : Lad} {h : Nat} (k : l.Ok) : sgL l l h = [(0, 0)] := by
  refine (signs_spec k k).uniq (SInv.zero.congr fun x _ => ?_)
  grind
@[simp] theorem ix_tup' {n h : Nat} {f : Nat → Rat} (hh : h < n) : ixD (.tuple (rtL n f)) (.int (h : Int)) = some (fr (f h)) := ix_rtL hh
theorem law_sign_ok {l1 l2 : Lad} {h k : Nat} {x : Rat} (k1 : l1.Ok) (k2 : l2.Ok) (h1 : h < l1.n) (h2 : h < l2.n) (hx : 0 ≤ x) (hb : Bd k x) (hk : k ≤ 800) : F__law_sign [ld l1, ld l2, .int (h : Int), fr x] = .ok (.int (sgn (DD l1 l2 h x))) := by
  have t1 := total_ok k1 hx hb hk
  have t2 := total_ok k2 hx hb hk
  have b1 := (pay_one k1 h1 hx hb (by omega)).2
  have b2 := (pay_one k2 h2 hx hb (by omega)).2
  have i1 := ix_tup' (f := l1.T x) h1
  have i2 := ix_tup' (f := l2.T x) h2
  have p1 := lless_ok (a := l2.T x h) (b := l1.T x h) (b2.mono (by omega)) (b1.mono (by omega))
  have hs := sgn_num (l2.T x h - l1.T x h)
  unfold F__law_sign
  simp only [B__law_sign]
  generalize hq : l2.T x h - l1.T x h = q at *
  simp only [runP_s, sSeq_s, sAsg_s, eCall_s, aCons_s, aNil_s, eBin_s, eVar_s, eC_s, eCB_s, sRet_s, start0_s, List.map, List.length, List.append]
  simp [t1, t2, i1, i2, p1]
  simp only [decide_eq_true_eq] at hs
  rw [hs, ← hq]
/-! neighbouring marks -/
def nbrs : List Rat → List (Rat × Rat)
  | a :: b :: r => (a, b) :: nbrs (b :: r)
  | _ => []
theorem mark_part {l1 l2 : Lad} {h : Nat} {s : Int} {x3 : Option SV} {y5 y8 : Option SV} (k1 : l1.Ok) (k2 : l2.Ok) (h1 : h < l1.n) (h2 : h < l2.n) {marks pre rest : List Rat} {a b : Rat} (e : marks = pre ++ a :: b :: rest) (ha : 0 ≤ a) (hab : Bd 240 a) (hbb : Bd 240 b) (hs : a < b → ∀ x, a < x → x < b → sgn (DD l1 l2 h x) = s) (q : Rat) (hq0 : 0 < q) (hq1 : q < 1) (hqb : Bd 10 q) :
    ∃ z8, lB__law_is_between_2 [some (.d (ld l1)), some (.d (ld l2)), some (.d (iD h)), some (.d (.list (marks.map fr))), some (.d (.int s)), some (.d (iD pre.length)), some (.d (fr (b - a))), some (.d (fr q)), y8] none = .nx [some (.d (ld l1)), some (.d (ld l2)), some (.d (iD h)), some (.d (.list (marks.map fr))), some (.d (.int s)), some (.d (iD pre.length)), some (.d (fr (b - a))), some (.d (fr q)), z8] none := by
  have hix : atI (marks.map fr) (pre.length : Int) = some (fr a) := by
    rw [atI_nat (by rw [e]; simp), e]; simp
  have g := hbb.sub hab
  generalize hD : marks.map fr = D at *
  by_cases hc : 0 < b - a
  · have hnum : 0 < (b - a).num := num_pos.mpr hc
    have p1 := ltimes_ok (a := b - a) (b := q) (g.mono (by decide)) (hqb.mono (by decide))
    have g2 := g.mul hqb
    have p2 := lplus_ok (a := a) (b := (b - a) * q) (hab.mono (by decide)) (g2.mono (by decide))
    have g3 := hab.add g2
    have m1 := mul_pp hc hq0
    have m2 := Rat.mul_lt_mul_of_pos_left hq1 hc
    have ps := law_sign_ok (h := h) k1 k2 h1 h2 (x := a + (b - a) * q) (by grind) g3 (by decide)
    rw [hs (by grind) _ (by grind) (by grind)] at ps
    refine ⟨some (.d (fr (a + (b - a) * q))), ?_⟩
    simp [lB__law_is_between_2, hnum, hix, p1, p2, ps]
  · have hnum : ¬ 0 < (b - a).num := fun z => hc (num_pos.mp z)
    exact ⟨y8, by simp [lB__law_is_between_2, hnum]⟩
theorem mark_loop {l1 l2 : Lad} {h : Nat} {s : Int} (k1 : l1.Ok) (k2 : l2.Ok) (h1 : h < l1.n) (h2 : h < l2.n) {marks : List Rat} (h0 : ∀ a ∈ marks, 0 ≤ a ∧ Bd 240 a) : ∀ (rest pre : List Rat) (y5 y6 y7 y8 : Option SV), marks = pre ++ rest →
    (∀ p ∈ nbrs rest, p.1 < p.2 → ∀ x, p.1 < x → x < p.2 → sgn (DD l1 l2 h x) = s) →
    ∃ z5 z6 z7 z8, fL (gN 5) lB__law_is_between_1 ((List.range' pre.length (rest.length - 1)).map iD) [some (.d (ld l1)), some (.d (ld l2)), some (.d (iD h)), some (.d (.list (marks.map fr))), some (.d (.int s)), y5, y6, y7, y8] none = .nx [some (.d (ld l1)), some (.d (ld l2)), some (.d (iD h)), some (.d (.list (marks.map fr))), some (.d (.int s)), z5, z6, z7, z8] none
  | [], pre, y5, y6, y7, y8, e, _ => ⟨_, _, _, _, rfl⟩
  | [a], pre, y5, y6, y7, y8, e, _ => ⟨_, _, _, _, rfl⟩
  | a :: b :: rest, pre, y5, y6, y7, y8, e, hs => by
    obtain ⟨ha, hab⟩ := h0 a (by rw [e]; simp)
    obtain ⟨hb, hbb⟩ := h0 b (by rw [e]; simp)
    have hsab := hs (a, b) (by simp [nbrs])
    have e0 : (PyData.tuple [.int 1, .int 999] : Dt) = fr (mkRat 1 999) := rfl
    have e1 : (PyData.tuple [.int 1, .int 2] : Dt) = fr (mkRat 1 2) := rfl
    have e2 : (PyData.tuple [.int 998, .int 999] : Dt) = fr (mkRat 998 999) := rfl
    obtain ⟨v1, q1⟩ := mark_part (s := s) (x3 := none) (y5 := none) (y8 := y8) k1 k2 h1 h2 e ha hab hbb hsab (mkRat 1 999) (by decide) (by decide) ⟨by decide, by decide⟩
    obtain ⟨v2, q2⟩ := mark_part (s := s) (x3 := none) (y5 := none) (y8 := v1) k1 k2 h1 h2 e ha hab hbb hsab (mkRat 1 2) (by decide) (by decide) ⟨by decide, by decide⟩
    obtain ⟨v3, q3⟩ := mark_part (s := s) (x3 := none) (y5 := none) (y8 := v2) k1 k2 h1 h2 e ha hab hbb hsab (mkRat 998 999) (by decide) (by decide) ⟨by decide, by decide⟩
    obtain ⟨w5, w6, w7, w8, ih⟩ := mark_loop (s := s) k1 k2 h1 h2 h0 (b :: rest) (pre ++ [a]) (some (.d (iD pre.length))) (some (.d (fr (b - a)))) (some (.d (fr (mkRat 998 999)))) v3 (by rw [e]; simp) (fun p hp => hs p (by unfold nbrs; exact List.mem_cons_of_mem _ hp))
    refine ⟨w5, w6, w7, w8, ?_⟩
    have hix : atI (marks.map fr) (pre.length : Int) = some (fr a) := by
      rw [atI_nat (by rw [e]; simp), e]; simp
    have hixb : atI (marks.map fr) ((pre.length : Int) + 1) = some (fr b) := by
      have : atI (marks.map fr) ((pre.length + 1 : Nat) : Int) = some (fr b) := by
        rw [atI_nat (by rw [e]; simp), e]; simp
      exact this
    have p1 := lless_ok (a := b) (b := a) (hbb.mono (by decide)) (hab.mono (by decide))
    have hin : fL (gN 7) lB__law_is_between_2 [fr (mkRat 1 999), fr (mkRat 1 2), fr (mkRat 998 999)] [some (.d (ld l1)), some (.d (ld l2)), some (.d (iD h)), some (.d (.list (marks.map fr))), some (.d (.int s)), some (.d (iD pre.length)), some (.d (fr (b - a))), y7, y8] none = .nx [some (.d (ld l1)), some (.d (ld l2)), some (.d (iD h)), some (.d (.list (marks.map fr))), some (.d (.int s)), some (.d (iD pre.length)), some (.d (fr (b - a))), some (.d (fr (mkRat 998 999))), v3] none := by
      rw [fL_cons, gN_s, if_pos (by simp)]
      simp only [List.set_cons_succ, List.set_cons_zero]
      rw [q1]
      simp only
      rw [fL_cons, gN_s, if_pos (by simp)]
      simp only [List.set_cons_succ, List.set_cons_zero]
      rw [q2]
      simp only
      rw [fL_cons, gN_s, if_pos (by simp)]
      simp only [List.set_cons_succ, List.set_cons_zero]
      rw [q3]
      simp only [fL_nil]
    have eb : lB__law_is_between_1 [some (.d (ld l1)), some (.d (ld l2)), some (.d (iD h)), some (.d (.list (marks.map fr))), some (.d (.int s)), some (.d (iD pre.length)), y6, y7, y8] none = .nx [some (.d (ld l1)), some (.d (ld l2)), some (.d (iD h)), some (.d (.list (marks.map fr))), some (.d (.int s)), some (.d (iD pre.length)), some (.d (fr (b - a))), some (.d (fr (mkRat 998 999))), v3] none := by
      rw [← e0, ← e1, ← e2] at hin
      rw [← e2]
      generalize hD : marks.map fr = D at *
      simp [lB__law_is_between_1, hix, hixb, p1, hin]
    have er : List.range' pre.length ((a :: b :: rest).length - 1) = pre.length :: List.range' (pre.length + 1) ((b :: rest).length - 1) := by
      simp [List.range'_succ]
    rw [er, List.map_cons, fL_cons, gN_s, if_pos (by simp)]
    simp only [List.set_cons_succ, List.set_cons_zero]
    rw [eb]
    simp only
    have el : (pre ++ [a]).length = pre.length + 1 := by simp
    rw [el] at ih
    exact ih
theorem law_between_ok {l1 l2 : Lad} {h : Nat} {s : Int} {marks : List Rat} (k1 : l1.Ok) (k2 : l2.Ok) (h1 : h < l1.n) (h2 : h < l2.n) (h0 : ∀ a ∈ marks, 0 ≤ a ∧ Bd 240 a) (hl : marks.length ≤ 1000)
    (hs : ∀ p ∈ nbrs marks, p.1 < p.2 → ∀ x, p.1 < x → x < p.2 → sgn (DD l1 l2 h x) = s) : F__law_is_between [ld l1, ld l2, .int (h : Int), .list (marks.map fr), .int s] = .ok (.bool true) := by
  obtain ⟨z5, z6, z7, z8, hf⟩ := mark_loop (s := s) k1 k2 h1 h2 h0 marks [] none none none none rfl hs
  rw [List.length_nil, ← List.range_eq_range'] at hf
  have hrng := rngOf_len (n := marks.length) hl
  have hln : (marks.map fr).length = marks.length := List.length_map ..
  rw [← hln] at hrng
  have hf : fL (gN 5) lB__law_is_between_1 ((List.range (marks.length - 1)).map fun (i : Nat) => PyData.int (i : Int)) _ _ = _ := hf
  rw [← hln] at hf
  unfold F__law_is_between
  simp only [B__law_is_between]
  generalize hD : marks.map fr = D at *
  simp [hrng, hf]
end Sx

namespace Mx
def reachN : List Rung → Nat
  | [] => 0
  | r :: rs => if r.endless = true then 1 else reachN rs + 1
theorem reachN_c (r : Rung) (rs : List Rung) : reachN (r :: rs) = if r.endless = true then 1 else reachN rs + 1 := rfl
theorem reachN_le : ∀ rs : List Rung, reachN rs ≤ rs.length
  | [] => Nat.le_refl _
  | r :: rs => by
    unfold reachN
    split
    · simp
    · have := reachN_le rs; simp; omega
theorem reachN_pos {rs : List Rung} (h : rs ≠ []) : 1 ≤ reachN rs := by
  cases rs with
  | nil => exact absurd rfl h
  | cons r rs => unfold reachN; split <;> omega
theorem lpcs_reach : ∀ rs : List Rung, lpcs (rs.take (reachN rs)) = lpcs rs
  | [] => rfl
  | r :: rs => by
    unfold reachN
    by_cases h : r.endless = true
    · rw [if_pos h]
      simp only [List.take_succ_cons, List.take_zero, lpcs]
      rw [if_pos h, if_pos h]
    · rw [if_neg h, List.take_succ_cons]
      simp only [lpcs]
      rw [if_neg h, if_neg h, lpcs_reach rs]
theorem lpcs_app {qs : List Rung} : ∀ {rs : List Rung}, (∃ r ∈ rs, r.endless = true) → lpcs (rs ++ qs) = lpcs rs
  | [], h => by obtain ⟨r, hr, _⟩ := h; cases hr
  | r :: rs, h => by
    rw [List.cons_append]
    simp only [lpcs]
    by_cases he : r.endless = true
    · rw [if_pos he, if_pos he]
    · rw [if_neg he, if_neg he, lpcs_app (by
        obtain ⟨q, hq, e⟩ := h
        rcases List.mem_cons.mp hq with z | z
        · rw [z] at e; exact absurd e he
        · exact ⟨q, z, e⟩)]
theorem reachN_last {rs : List Rung} : (∃ r ∈ rs, r.endless = true) → ∃ r, (rs.take (reachN rs)).getLast? = some r ∧ r.endless = true ∧ reachN (rs.take (reachN rs)) = reachN rs := by
  induction rs with
  | nil => rintro ⟨r, hr, _⟩; cases hr
  | cons r rs ih =>
    intro h
    rw [reachN_c]
    by_cases he : r.endless = true
    · rw [if_pos he]
      exact ⟨r, by simp, he, by simp [reachN_c, he]⟩
    · rw [if_neg he, List.take_succ_cons]
      obtain ⟨q, h1, h2, h3⟩ := ih (by
        obtain ⟨q, hq, e⟩ := h
        rcases List.mem_cons.mp hq with z | z
        · rw [z] at e; exact absurd e he
        · exact ⟨q, z, e⟩)
      refine ⟨q, ?_, h2, ?_⟩
      · rw [List.getLast?_cons, h1]; rfl
      · rw [reachN_c, if_neg he, h3]
def needR : List Rung → Nat → Option Nat
  | [], acc => some acc
  | r :: rs, acc => if r.endless = true then none else needR rs (acc + wsum r.C)
/-! fixed rungs as shares with caps -/
theorem wsum_mulP {m : Nat} : ∀ w : List (Nat × Nat), wsum (mulP m w) = m * wsum w
  | [] => by simp [mulP, wsum]
  | p :: w => by
    have := wsum_mulP (m := m) w
    unfold mulP at this ⊢
    rw [List.map_cons, wsum_cons, wsum_cons, this, Nat.mul_add]
theorem rt_mulP {m : Nat} {w : List (Nat × Nat)} (hm : 0 < m) (hW : 0 < wsum w) : rt (mulP m w) (wsum (mulP m w) : Rat) = rt w (wsum w : Rat) := by
  funext h
  unfold rt
  rw [lk_mulP]
  cases lk w h with
  | none => rfl
  | some v =>
    simp only [Option.map_some]
    rw [wsum_mulP, Rat.natCast_mul, Rat.natCast_mul]
    have h1 : (m : Rat) ≠ 0 := by have := Rat.natCast_pos.mpr hm; grind
    have h2 : (wsum w : Rat) ≠ 0 := by have := Rat.natCast_pos.mpr hW; grind
    have h3 : (m : Rat) * (wsum w : Rat) ≠ 0 := fun z => by rcases Rat.mul_eq_zero.mp z with y | y; exact h1 y; exact h2 y
    have e : (v : Rat) = (v : Rat) / (wsum w : Rat) * (wsum w : Rat) := (Rat.div_mul_cancel h2).symm
    have : (m : Rat) * (v : Rat) = (v : Rat) / (wsum w : Rat) * ((m : Rat) * (wsum w : Rat)) := by
      generalize (v : Rat) / (wsum w : Rat) = q at *
      rw [e]; grind
    rw [this, Rat.div_def, Rat.mul_assoc, Rat.mul_inv_cancel _ h3]
    grind
theorem lenOf_prop {m : Nat} {L : List (Nat × Rat)} {W : Rat} (hW : 0 < W) : ∀ (A : List (Nat × Nat)) (o : Option Rat), (∀ p ∈ A, 0 < p.2 ∧ lk L p.1 = some ((m : Rat) * (p.2 : Rat))) → (o = none ∨ o = some ((m : Rat) * W)) → (A ≠ [] ∨ o ≠ none) → lenOf L W A o = some ((m : Rat) * W)
  | [], o, _, h, h' => by
    rcases h with z | z
    · rcases h' with y | y
      · exact absurd rfl y
      · exact absurd z y
    · exact z
  | (h, w) :: A, o, hA, ho, _ => by
    obtain ⟨hw, hl⟩ := hA (h, w) (by simp)
    have hwq : (0 : Rat) < (w : Rat) := Rat.natCast_pos.mpr hw
    have e : (m : Rat) * (w : Rat) / ((w : Rat) / W) = (m : Rat) * W := by
      have hd : (0 : Rat) < (w : Rat) / W := div_pos hwq hW
      have : (m : Rat) * (w : Rat) = (m : Rat) * W * ((w : Rat) / W) := by
        have : (w : Rat) = (w : Rat) / W * W := (Rat.div_mul_cancel (by grind)).symm
        generalize (w : Rat) / W = q at *
        rw [this]; grind
      rw [this, Rat.div_def, Rat.mul_assoc, Rat.mul_inv_cancel _ (by grind)]
      grind
    unfold lenOf
    rw [hl]
    simp only
    rw [e]
    refine lenOf_prop hW A _ (fun p hp => hA p (List.mem_cons_of_mem _ hp)) (.inr ?_) (.inr (by simp))
    rcases ho with z | z <;> rw [z]
    simp
theorem pcs_prop {n m : Nat} {w : List (Nat × Nat)} (hw0 : w ≠ []) (hm : 0 < m) (hw : POk n 20 w) : pcs (.shares w (mulP m w)) = pcs (.fixed (mulP m w)) := by
  have hp : ∀ p ∈ w, 0 < p.2 := fun p hp => (hw.el p hp).2.1
  have hW := wsum_pos hp hw0
  have hWq : (0 : Rat) < (wsum w : Rat) := Rat.natCast_pos.mpr hW
  have hlk : ∀ p ∈ w, lk (ratC (mulP m w)) p.1 = some ((m : Rat) * (p.2 : Rat)) := fun p hpm => by
    rw [lk_ratC, lk_mulP, mem_lk hw.dis hpm]
    simp [Rat.natCast_mul]
  have hlen := lenOf_prop (m := m) (L := ratC (mulP m w)) hWq w none (fun p hpm => ⟨hp p hpm, hlk p hpm⟩) (.inl rfl) (.inl hw0)
  show spGo (w.length + 1) w (ratC (mulP m w)) = _
  unfold spGo
  rw [if_neg hw0, hlen]
  simp only
  have hk : keepA (lowL (ratC (mulP m w)) (rt w (wsum w : Rat)) ((m : Rat) * (wsum w : Rat))) w = [] := by
    unfold keepA
    rw [List.filter_eq_nil_iff]
    intro p hpm
    rw [lk_low, hlk p hpm]
    simp only [Option.map_some]
    rw [rt_some (mem_lk hw.dis hpm)]
    have : (m : Rat) * (p.2 : Rat) - (m : Rat) * (wsum w : Rat) * ((p.2 : Rat) / (wsum w : Rat)) = 0 := by
      have e : (p.2 : Rat) = (p.2 : Rat) / (wsum w : Rat) * (wsum w : Rat) := (Rat.div_mul_cancel (by grind)).symm
      generalize (p.2 : Rat) / (wsum w : Rat) = q at *
      rw [e]; grind
    rw [this]
    simp
  rw [hk]
  have hnil : ∀ k L, spGo k [] L = [] := fun k L => by cases k <;> rfl
  rw [hnil]
  show _ = [(some (wsum (mulP m w) : Rat), rt (mulP m w) (wsum (mulP m w) : Rat))]
  rw [rt_mulP hm hW, wsum_mulP, Rat.natCast_mul]
theorem ev_twice {l x : Rat} {r : Nat → Rat} {ps : List Pc} {h : Nat} (hl : 0 ≤ l) : ev ((some l, r) :: (some l, r) :: ps) x h = ev ((some (l + l), r) :: ps) x h := by
  by_cases h1 : x ≤ l
  · rw [ev_le h1, ev_le (by grind)]
  · rw [ev_gt h1]
    by_cases h2 : x ≤ l + l
    · rw [ev_le (show x - l ≤ l by grind), ev_le h2]; grind
    · rw [ev_gt (show ¬ x - l ≤ l by grind), ev_gt h2, show x - l - l = x - (l + l) by grind]; grind
end Mx
namespace Sx
open PySem PySem.Spec PyProof.Rows L2 Mx
/-- ladders that pay the same up to an amount part behind it -/
theorem part_ge {l1 l2 : Lad} (k1 : l1.Ok) (k2 : l2.Ok) {a t : Rat} (h : ∀ i, i < l1.n → ∀ x, 0 ≤ x → x ≤ a → l1.T x i = l2.T x i) (ho : ptL l1 l2 = some t) : a ≤ t := by
  refine Classical.byContradiction fun hc => ?_
  have hp := (part_pt k1 k2).1
  rw [ho] at hp
  obtain ⟨t0, _, i, hi, s, hs, hr⟩ := hp
  refine hs (hr.uniq ⟨a, by grind, fun y h1 h2 => sgn_eq0.mpr ?_⟩)
  simp only; rw [h i hi y (by grind) (by grind)]; grind
/-! enumerations -/
theorem enumD_zip {α : Type} (f : α → Dt) : ∀ (xs : List α) (i : Nat), enumD i (xs.map f) = (xs.zipIdx i).map fun p => .tuple [.int (p.2 : Int), f p.1]
  | [], i => rfl
  | x :: xs, i => by
    rw [List.map_cons, List.zipIdx_cons, List.map_cons, ← enumD_zip f xs (i + 1)]
    rfl
theorem reach_first : ∀ (rs : List Rung) (i : Nat), (∃ r ∈ rs, r.endless = true) → ∃ r rest, (rs.zipIdx i).filter (fun p => p.1.endless) = (r, i + reachN rs - 1) :: rest
  | [], i, h => by obtain ⟨r, hr, _⟩ := h; cases hr
  | r :: rs, i, h => by
    rw [List.zipIdx_cons]
    by_cases he : r.endless = true
    · rw [List.filter_cons_of_pos (p := fun p : Rung × Nat => p.1.endless) (a := (r, i)) he]
      refine ⟨r, (rs.zipIdx (i + 1)).filter (fun p => p.1.endless), ?_⟩
      have : reachN (r :: rs) = 1 := by unfold reachN; rw [if_pos he]
      rw [this]
      rfl
    · rw [List.filter_cons_of_neg (p := fun p : Rung × Nat => p.1.endless) (a := (r, i)) he]
      obtain ⟨q, rest, e⟩ := reach_first rs (i + 1) (by
        obtain ⟨q, hq, e⟩ := h
        rcases List.mem_cons.mp hq with z | z
        · rw [z] at e; exact absurd e he
        · exact ⟨q, z, e⟩)
      refine ⟨q, rest, ?_⟩
      rw [e]
      have : reachN (r :: rs) = reachN rs + 1 := by show (if r.endless = true then 1 else reachN rs + 1) = _; rw [if_neg he]
      rw [this]
      congr 2
      omega
theorem reached_ok {l : Lad} (k : l.Ok) : F_reached [ld l] = .ok (.int (reachN l.rs : Int)) := by
  have r4 := k.r4
  have hpos := reachN_pos k.r1
  obtain ⟨r, rest, hf⟩ := reach_first l.rs 0 k.ex
  have hc : cL (gTu 2 (gsCons (gN 1) (gsCons (gN 2) gsNil))) cC_reached_1 cE_reached_1 [some (.d (ld l)), none, none] (enumD 0 (l.rs.map rd)) none = .ok (((l.rs.zipIdx 0).filter (fun p => p.1.endless)).map (fun p => PyData.int (p.2 : Int)), none) := by
    rw [enumD_zip]
    refine cL_ty (fun p : Rung × Nat => PyData.tuple [.int (p.2 : Int), rd p.1]) _ _ _ fun p hp => ⟨_, by simp; rfl, ?_, fun _ => by simp [cE_reached_1]⟩
    simp [cC_reached_1, is_endless_ok]
  rw [hf] at hc
  have hle : (enumD 0 (l.rs.map rd)).length ≤ 100000 := by rw [enumD_len, List.length_map]; omega
  have hn : (((0 + reachN l.rs - 1 : Nat) : Int)) + 1 = (reachN l.rs : Int) := by omega
  unfold F_reached
  simp only [B_reached]
  simp only [List.map_cons] at hc
  generalize ((0 + reachN l.rs - 1 : Nat) : Int) = z at *
  simp [check_ladder_ok k, wipeOk, hle, hc, hn]
def needD : Option Nat → Dt
  | none => .none
  | some u => .int (u : Int)
theorem fL_c1 {i : Nat} {body : SS} {d : Dt} {ds : List Dt} {ρ : Sl} {W : Tw} (hi : i < ρ.length) : fL (gN i) body (d :: ds) ρ W =
    match body (ρ.set i (some (.d d))) W with | .nx ρ2 W2 => fL (gN i) body ds ρ2 W2 | r => r := by
  simp [hi] <;> rfl
theorem need_loop {x0 x1 : Option SV} {n : Nat} (hn : n ≤ 5) : ∀ (rs : List Rung) (acc : Nat) (y3 : Option SV), (∀ r ∈ rs, r.Ok n) →
    (∀ u, needR rs acc = some u → ∃ z3, fL (gN 3) lB_needed_for_1 (rs.map rd) [x0, x1, some (.d (iD acc)), y3, none] none = .nx [x0, x1, some (.d (iD u)), z3, none] none) ∧
    (needR rs acc = none → fL (gN 3) lB_needed_for_1 (rs.map rd) [x0, x1, some (.d (iD acc)), y3, none] none = .rt (.d .none) none)
  | [], acc, y3, _ => ⟨fun u h => by cases h; exact ⟨_, rfl⟩, fun h => by cases h⟩
  | r :: rs, acc, y3, hk => by
    have kr := hk r (by simp)
    have he := is_endless_ok r
    have hlC := (Ok_len kr hn).2
    have hix : ixD (rd r) (.int (-1)) = some (prs r.C) := by cases r <;> rfl
    have hc : ∀ y0 y1 y2 y3 : Option SV, cL (gN 4) bYes cE_needed_for_2 [y0, y1, y2, y3, none] (r.C.map pr) none = .ok (r.C.map (fun p => PyData.int (p.2 : Int)), none) := by
      intros
      exact cL_map pr _ _ fun p hp => ⟨_, by simp; rfl, by simp [cE_needed_for_2]⟩
    have hs := sumD_pairs r.C
    rw [List.map_cons, fL_c1 (by simp)]
    simp only [List.set_cons_succ, List.set_cons_zero]
    have hnr : needR (r :: rs) acc = if r.endless = true then none else needR rs (acc + wsum r.C) := rfl
    rw [hnr]
    by_cases hen : r.endless = true
    · rw [hen] at he
      rw [if_pos hen]
      refine ⟨fun u h => (by cases h), fun _ => ?_⟩
      have eb : lB_needed_for_1 [x0, x1, some (.d (iD acc)), some (.d (rd r)), none] none = .rt (.d .none) none := by simp [lB_needed_for_1, he]
      rw [eb]
    · have hen' : r.endless = false := by simpa using hen
      rw [hen'] at he
      rw [if_neg hen]
      have eb : lB_needed_for_1 [x0, x1, some (.d (iD acc)), some (.d (rd r)), none] none = .nx [x0, x1, some (.d (iD (acc + wsum r.C))), some (.d (rd r)), none] none := by
        simp [lB_needed_for_1, he, hix, wipeOk, show r.C.length ≤ 100000 by omega, hc, hs]
      rw [eb]
      exact need_loop hn rs (acc + wsum r.C) (some (.d (rd r))) fun q hq => hk q (List.mem_cons_of_mem _ hq)
theorem needed_for_ok {l : Lad} {k : Nat} (hk : l.Ok) (h : k < l.rs.length) : F_needed_for [ld l, .int (k : Int)] = .ok (needD (needR (l.rs.take (k + 1)) 0)) := by
  have hb := is_between_ok (v := (k : Int)) (lo := 0) (hi := (l.rs.length : Int) - 1)
  rw [decide_eq_true (by omega), decide_eq_true (by omega)] at hb
  have hcut : cutD (l.rs.map rd) none (some ((k : Int) + 1)) = (l.rs.take (k + 1)).map rd := by
    have := cutD_take (ds := l.rs.map rd) (n := k + 1)
    rw [List.map_take]
    exact this
  obtain ⟨h1, h2⟩ := need_loop (x0 := some (.d (ld l))) (x1 := some (.d (.int (k : Int)))) hk.n5 (l.rs.take (k + 1)) 0 none fun r hr => hk.ok r (List.mem_of_mem_take hr)
  have hln : (l.rs.map rd).length = l.rs.length := List.length_map ..
  unfold F_needed_for
  simp only [B_needed_for]
  cases hc : needR (l.rs.take (k + 1)) 0 with
  | none =>
    have h3 := h2 hc
    generalize (l.rs.take (k + 1)).map rd = D2 at *
    have h3 : fL (gN 3) lB_needed_for_1 D2 [some (.d (ld l)), some (.d (.int (k : Int))), some (.d (.int 0)), none, none] none = _ := h3
    simp [check_ladder_ok hk, hb, hcut, h3, needD]
  | some u =>
    obtain ⟨z3, h3⟩ := h1 u hc
    generalize (l.rs.take (k + 1)).map rd = D2 at *
    have h3 : fL (gN 3) lB_needed_for_1 D2 [some (.d (ld l)), some (.d (.int (k : Int))), some (.d (.int 0)), none, none] none = _ := h3
    simp [check_ladder_ok hk, hb, hcut, h3, needD]
end Sx

namespace Mx
theorem needR_none : ∀ (rs : List Rung) (acc : Nat), (∃ r ∈ rs, r.endless = true) → needR rs acc = none
  | [], acc, h => by obtain ⟨r, hr, _⟩ := h; cases hr
  | r :: rs, acc, h => by
    have e : needR (r :: rs) acc = if r.endless = true then none else needR rs (acc + wsum r.C) := rfl
    rw [e]
    by_cases he : r.endless = true
    · rw [if_pos he]
    · rw [if_neg he]
      exact needR_none rs _ (by
        obtain ⟨q, hq, e⟩ := h
        rcases List.mem_cons.mp hq with z | z
        · rw [z] at e; exact absurd e he
        · exact ⟨q, z, e⟩)
theorem mulP_ok {n m k : Nat} {w : List (Nat × Nat)} (h : POk n k w) (hm : 1 ≤ m) (hk : m * k ≤ 999) : POk n 999 (mulP m w) := by
  constructor
  · intro p hp
    obtain ⟨q, hq, rfl⟩ := List.mem_map.mp hp
    obtain ⟨h1, h2, h3⟩ := h.el q hq
    refine ⟨h1, Nat.le_trans h2 (Nat.le_mul_of_pos_left _ hm), Nat.le_trans (Nat.mul_le_mul_left m h3) hk⟩
  · exact List.pairwise_map.mpr h.inc
theorem T_congr {l1 l2 : Lad} (h : lpcs l1.rs = lpcs l2.rs) (x : Rat) (i : Nat) : l1.T x i = l2.T x i := by unfold Lad.T; rw [h]
end Mx
namespace Sx
open PySem PySem.Spec PyProof.Rows L2 Mx
theorem short_ok {l : Lad} (k : l.Ok) : Lad.Ok ⟨l.n, l.rs.take (reachN l.rs)⟩ := by
  obtain ⟨r, h1, h2, _⟩ := reachN_last k.ex
  refine ⟨k.n1, k.n5, fun z => ?_, ?_, fun q hq => k.ok q (List.mem_of_mem_take hq), r, h1, h2⟩
  · have z : l.rs.take (reachN l.rs) = [] := z
    rw [z] at h1; cases h1
  · have := k.r4
    show (l.rs.take (reachN l.rs)).length ≤ 4
    rw [List.length_take]; omega
/-- comprehension, one step -/
theorem cL_yes {g : SG} {c : SB} {e : SE} {ρ0 ρ1 : Sl} {d v : Dt} {ds zs : List Dt} {W W1 W2 W3 : Tw} (h1 : g d ρ0 = some ρ1) (h2 : c ρ1 W = .ok (true, W1)) (h3 : e ρ1 W1 = .ok (v, W2)) (h4 : cL g c e ρ0 ds W2 = .ok (zs, W3)) : cL g c e ρ0 (d :: ds) W = .ok (v :: zs, W3) := by
  unfold cL
  rw [h1]
  simp only [h2]
  show Res.bind (nox (.ok (true, W1))) _ = _
  simp only [nox, Res.bind_ok, if_true, h3, h4]
theorem fdiv_half {m w : Nat} : (((2 * m : Nat) : Int) * (w : Int)) / 2 = ((m * w : Nat) : Int) := by
  have : ((2 * m : Nat) : Int) * (w : Int) = 2 * ((m * w : Nat) : Int) := by
    rw [Int.natCast_mul, Int.natCast_mul]
    simp only [Int.mul_assoc]
    rfl
  rw [this]
  omega
theorem eq_nils {ds : List Dt} (h : ds = []) : neD (.list ds) (.list []) = some (.bool false) := by rw [h]; rfl
end Sx

namespace Sx
open PySem PySem.Spec PyProof.Rows L2
/-! ### sorted: ints, pairs of ints -/
section
variable {α : Type} (le : α → α → Bool)
def insO (a : α) : List α → List α
  | [] => [a]
  | b :: r => if le a b then a :: b :: r else b :: insO a r
def sortO (l : List α) : List α := l.foldr (insO le) []
variable {le}
theorem insO_perm (a : α) : ∀ l : List α, (insO le a l).Perm (a :: l)
  | [] => .refl _
  | b :: r => by
    unfold insO
    split
    · exact .refl _
    · exact ((insO_perm a r).cons b).trans (.swap a b r)
theorem sortO_perm : ∀ l : List α, (sortO le l).Perm l
  | [] => .refl _
  | a :: l => (insO_perm a (sortO le l)).trans ((sortO_perm l).cons a)
theorem insO_pw (tot : ∀ a b, le a b = true ∨ le b a = true) (tr : ∀ a b c, le a b = true → le b c = true → le a c = true) (a : α) : ∀ {l : List α}, l.Pairwise (fun x y => le x y = true) → (insO le a l).Pairwise (fun x y => le x y = true)
  | [], _ => by unfold insO; simp
  | b :: r, h => by
    obtain ⟨h1, h2⟩ := List.pairwise_cons.mp h
    unfold insO
    split
    · rename_i hab
      rw [List.pairwise_cons]
      refine ⟨fun x hx => ?_, h⟩
      rcases List.mem_cons.mp hx with z | z
      · rw [z]; exact hab
      · exact tr a b x hab (h1 x z)
    · rename_i hab
      have hba : le b a = true := by rcases tot a b with z | z; exact absurd z hab; exact z
      rw [List.pairwise_cons]
      refine ⟨fun x hx => ?_, insO_pw tot tr a h2⟩
      rcases List.mem_cons.mp ((insO_perm a r).mem_iff.mp hx) with z | z
      · rw [z]; exact hba
      · exact h1 x z
theorem sortO_pw (tot : ∀ a b, le a b = true ∨ le b a = true) (tr : ∀ a b c, le a b = true → le b c = true → le a c = true) : ∀ l : List α, (sortO le l).Pairwise (fun x y => le x y = true)
  | [] => .nil
  | a :: l => insO_pw tot tr a (sortO_pw tot tr l)
theorem sort_uniq (anti : ∀ a b, le a b = true → le b a = true → a = b) : ∀ {l m : List α}, l.Pairwise (fun x y => le x y = true) → m.Pairwise (fun x y => le x y = true) → l.Perm m → l = m
  | [], m, _, _, h => (List.Perm.eq_nil h.symm).symm
  | x :: l, [], _, _, h => absurd h.length_eq (by simp)
  | x :: l, y :: m, hl, hm, h => by
    obtain ⟨l1, l2⟩ := List.pairwise_cons.mp hl
    obtain ⟨m1, m2⟩ := List.pairwise_cons.mp hm
    have e : x = y := by
      rcases List.mem_cons.mp (h.mem_iff.mp (List.mem_cons_self (a := x) (l := l))) with z | z
      · exact z
      · rcases List.mem_cons.mp (h.mem_iff.mpr (List.mem_cons_self (a := y) (l := m))) with w | w
        · exact w.symm
        · exact anti x y (l1 y w) (m1 x z)
    subst e
    rw [sort_uniq anti l2 m2 h.cons_inv]
end
abbrev leI (a b : Int) : Bool := decide (a ≤ b)
def leP (p q : Int × Int) : Bool := decide (p.1 < q.1) || (decide (p.1 = q.1) && decide (p.2 ≤ q.2))
def pairD (p : Int × Int) : Dt := .tuple [.int p.1, .int p.2]
def pairOfD : Dt → Option (Int × Int)
  | .tuple [.int a, .int b] => some (a, b)
  | _ => none
def pairsOfD : List Dt → Option (List (Int × Int))
  | [] => some []
  | d :: ds => (pairOfD d).bind fun p => (pairsOfD ds).map (p :: ·)
def bdP (p : Int × Int) : Bool := decide (0 ≤ p.1) && (decide (p.1 < 1000) && (decide (0 ≤ p.2) && decide (p.2 < 1000)))
def sortD : List Dt → Option (List Dt)
  | [.list ds] => match intsOf ds with
    | some ns => some ((sortO leI ns).map PyData.int)
    | none => match pairsOfD ds with
      | some ps => if ps.length < 64 ∧ ps.all bdP = true then some ((sortO leP ps).map pairD) else none
      | none => none
  | _ => none
theorem pairsOfD_map : ∀ (ps : List (Int × Int)), pairsOfD (ps.map pairD) = some ps
  | [] => rfl
  | p :: ps => by rw [List.map_cons]; show ((pairOfD (pairD p)).bind fun q => (pairsOfD (ps.map pairD)).map (q :: ·)) = _; rw [pairsOfD_map ps]; rfl
theorem pairsOfD_eq : ∀ {ds : List Dt} {ps : List (Int × Int)}, pairsOfD ds = some ps → ds = ps.map pairD
  | [], ps, h => by cases h; rfl
  | d :: ds, ps, h => by
    unfold pairsOfD at h
    cases hd : pairOfD d with
    | none => rw [hd] at h; cases h
    | some p =>
      rw [hd] at h
      cases hr : pairsOfD ds with
      | none => rw [hr] at h; cases h
      | some qs =>
        rw [hr] at h
        cases h
        rw [List.map_cons, ← pairsOfD_eq hr]
        congr 1
        unfold pairOfD at hd
        split at hd
        · cases hd; rfl
        · cases hd
theorem leP_tot (a b : Int × Int) : leP a b = true ∨ leP b a = true := by unfold leP; simp; omega
theorem leP_tr (a b c : Int × Int) (h : leP a b = true) (k : leP b c = true) : leP a c = true := by unfold leP at h k ⊢; simp at h k ⊢; omega
theorem leP_anti (a b : Int × Int) (h : leP a b = true) (k : leP b a = true) : a = b := by
  unfold leP at h k
  simp at h k
  exact Prod.ext (by omega) (by omega)
section
variable {K : PySem.W.Frag} {F H : Hp}
theorem DqAll.perm {xs ys : List V} (h : ys.Perm xs) : ∀ {ds : List Dt}, DqAll K F xs ds → ∃ es, es.Perm ds ∧ DqAll K F ys es := by
  induction h with
  | nil => intro ds h; cases h; exact ⟨[], .refl _, .nil⟩
  | cons x p ih =>
    intro ds h
    cases h with
    | cons a b =>
      obtain ⟨es, e1, e2⟩ := ih b
      exact ⟨_ :: es, e1.cons _, .cons a e2⟩
  | swap x y l =>
    intro ds h
    cases h with
    | cons a b =>
      cases b with
      | cons a' b' => exact ⟨_ :: _ :: _, .swap _ _ _, .cons a' (.cons a b')⟩
  | trans p q ih1 ih2 =>
    intro ds h
    obtain ⟨es, e1, e2⟩ := ih2 h
    obtain ⟨fs, f1, f2⟩ := ih1 e2
    exact ⟨fs, f1.trans e1, f2⟩
theorem perm_map {α β : Type} (f : α → β) : ∀ {ps : List α} {es : List β}, es.Perm (ps.map f) → ∃ qs : List α, qs.Perm ps ∧ es = qs.map f := by
  intro ps es h
  generalize hm : ps.map f = ms at h
  induction h generalizing ps with
  | nil => exact ⟨[], by rw [List.map_eq_nil_iff.mp hm], rfl⟩
  | cons x p ih =>
    cases ps with
    | nil => cases hm
    | cons a ps =>
      cases hm
      obtain ⟨qs, q1, q2⟩ := ih rfl
      exact ⟨a :: qs, q1.cons a, by rw [q2]; rfl⟩
  | swap x y l =>
    cases ps with
    | nil => cases hm
    | cons a ps =>
      cases ps with
      | nil => cases hm
      | cons b ps =>
        cases hm
        exact ⟨b :: a :: ps, .swap _ _ _, rfl⟩
  | trans p q ih1 ih2 =>
    obtain ⟨qs, q1, q2⟩ := ih2 hm
    obtain ⟨rs, r1, r2⟩ := ih1 q2.symm
    exact ⟨rs, r1.trans q1, r2⟩
theorem dq_pair {v : V} {p : Int × Int} (h : Dq K F v (pairD p)) (s : Same F H) : TupI K H v [p.1, p.2] := by
  unfold pairD at h
  cases h with
  | tup ht ha =>
    cases ha with
    | cons a b =>
      cases b with
      | cons a' b' =>
        cases b'
        cases a
        cases a'
        exact ⟨_, rfl, sqT_mono s ht⟩
theorem pw_pairs (s : Same F H) : ∀ {qs : List (Int × Int)} {ys : List V}, DqAll K F ys (qs.map pairD) → (∀ q ∈ qs, bdP q = true) → ys.Pairwise (fun x y => ∀ n m, TupI K H x n → TupI K H y m → TS.code 1000 n ≤ TS.code 1000 m) → qs.Pairwise (fun a b => leP a b = true)
  | [], _, _, _, _ => .nil
  | q :: qs, _, .cons hq hr, hb, hp => by
    obtain ⟨p1, p2⟩ := List.pairwise_cons.mp hp
    rw [List.pairwise_cons]
    refine ⟨fun r hr' => ?_, pw_pairs s hr (fun x hx => hb x (List.mem_cons_of_mem _ hx)) p2⟩
    have hex : ∀ {qs : List (Int × Int)} {ys : List V}, DqAll K F ys (qs.map pairD) → ∀ r ∈ qs, ∃ y ∈ ys, Dq K F y (pairD r) := by
      intro qs
      induction qs with
      | nil => intro ys _ r hr; cases hr
      | cons q qs ih =>
        intro ys h r hr
        cases h with
        | cons a b =>
          rcases List.mem_cons.mp hr with z | z
          · rw [z]; exact ⟨_, by simp, a⟩
          · obtain ⟨y, y1, y2⟩ := ih b r z
            exact ⟨y, List.mem_cons_of_mem _ y1, y2⟩
    obtain ⟨y, hy, hd⟩ := hex hr r hr'
    have hc := p1 y hy _ _ (dq_pair hq s) (dq_pair hd s)
    have b1 := hb q (by simp)
    have b2 := hb r (List.mem_cons_of_mem _ hr')
    have e : ∀ x y : Int, TS.code 1000 [x, y] = x * 1000 + y := fun x y => by
      show x * 1000 ^ 1 + (y * 1000 ^ 0 + 0) = _
      rw [Int.pow_succ, Int.pow_zero]; omega
    rw [e, e] at hc
    unfold bdP at b1 b2
    unfold leP
    simp at b1 b2 ⊢
    omega
end
section
variable {X : Cx}
theorem cb_sorted : CallR X (.builtin "sorted") (RLC X.K sortD) := by
  intro pins s σ H xs us Q I r h
  obtain ⟨F, ds, z, sm, hx, hg, q⟩ := h
  rcases ds with _ | ⟨d, _ | ⟨e, ds⟩⟩
  · cases hg
  · obtain ⟨v, rfl, hv⟩ := hx.one
    cases d <;> simp only [sortD] at hg <;> try (cases hg; done)
    rename_i xs'
    obtain ⟨a, xs, rfl, ha, da⟩ := hv.lst sm
    cases e : intsOf xs' with
    | some ns =>
      rw [e] at hg
      cases hg
      obtain rfl := ints_vs da e
      refine cr_sortedI pins s σ H _ us Q I r ⟨a, ns, rfl, ha, fun ns' p h1 h2 np => q p _ np ?_⟩
      have : ns' = sortO leI ns := sort_uniq (le := leI) (fun a b h k => by simp at h k; omega) (h2.imp fun z => by simpa using z) (sortO_pw (fun a b => by simp; omega) (fun a b c h k => by simp at h k ⊢; omega) ns) (h1.trans (sortO_perm ns).symm)
      rw [this]
      have : ∀ l : List Int, DqAll X.K F (l.map V.int) (l.map PyData.int) := fun l => by
        induction l with
        | nil => exact .nil
        | cons i l ih => exact .cons (.int i) ih
      exact this _
    | none =>
      rw [e] at hg
      simp only at hg
      cases e2 : pairsOfD xs' with
      | none => rw [e2] at hg; cases hg
      | some ps =>
        rw [e2] at hg
        simp only at hg
        split at hg
        · rename_i hb
          cases hg
          have he := pairsOfD_eq e2
          rw [he] at da
          have hbd : ∀ p ∈ ps, bdP p = true := fun p hp => List.all_eq_true.mp hb.2 p hp
          have hlen : xs.length < 64 := by rw [da.length, List.length_map]; exact hb.1
          have hel : ∀ {ps : List (Int × Int)} {xs : List V}, DqAll X.K F xs (ps.map pairD) → (∀ p ∈ ps, bdP p = true) → ∀ x ∈ xs, ∃ ns, TupI X.K H x ns ∧ ns.length = 2 ∧ TS.Bd 1000 ns := by
            intro ps
            induction ps with
            | nil => intro xs h _ x hx; cases h; cases hx
            | cons p ps ih =>
              intro xs h hb x hx
              cases h with
              | cons a b =>
                rcases List.mem_cons.mp hx with z | z
                · rw [z]
                  have hb := hb p (by simp)
                  refine ⟨_, dq_pair a sm, rfl, fun m hm => ?_⟩
                  unfold bdP at hb
                  simp at hb
                  rcases List.mem_cons.mp hm with w | w
                  · rw [w]; omega
                  · rw [List.mem_singleton.mp w]; omega
                · exact ih b (fun q hq => hb q (List.mem_cons_of_mem _ hq)) x z
          refine cr_sortT (d := 2) (B := 1000) (by decide) pins s σ H _ us Q I r ⟨a, xs, rfl, ha, hlen, hel da hbd, fun ys p h1 h2 np => q p ys np ?_⟩
          obtain ⟨es, e3, e4⟩ := da.perm h1
          obtain ⟨qs, q1, rfl⟩ := perm_map pairD e3
          have hs := pw_pairs sm e4 (fun q hq => hbd q (q1.mem_iff.mp hq)) h2
          rw [← sort_uniq (le := leP) leP_anti hs (sortO_pw leP_tot leP_tr ps) (q1.trans (sortO_perm ps).symm)]
          exact e4
        · cases hg
  · cases d <;> cases hg
/-- a built-in that gives a new list -/
theorem l_callB {XE : Str → Hp → Prop} {e : Expr} {es : List Expr} {x : Str} {id : String} {p pos : Pos} {ga : SA} {g : List Dt → Option (List Dt)} (hc : CallR X (.builtin id) (RLC X.K g)) (hg : Gl X x) (hm : X.mg x = none) (hv : bootBuiltins x = some (.builtin id)) (ha : PA X (e :: es) (tAR X.K XE ga)) (hn : x ≠ "__name__" := by decide) (hdb : (x == ("__debug__" : Str)) = false := by decide)
    (he : starEach (e :: es) X.env = (false, eval e X.env) :: starEach es X.env := by rfl) (hpl : (backTo pos (starEach es X.env)).any (·.1) = false := by rfl) : PE X (.Call (.Name x p) (e :: es) [] pos) (tL X.K XE (lCB g ga)) := (pe_callB hc hg hm hv ha hn hdb he hpl).weak fun _ _ _ => lCB_of
end
end Sx
namespace Sx
open PySem PySem.Spec PyProof.Rows L2
/-- x[k], x[l] = a, b -/
def sSet2 (i : Nat) (k l e : SE) : SS := fun ρ W => match ρ[i]? with
  | some (some (.own xs)) => rOut (e ρ W) fun d W1 => match d with
    | .tuple [a, b] => rOut (k ρ W1) fun kd W2 => match setD xs kd a with
      | some ys => rOut (l (ρ.set i (some (.own ys))) W2) fun ld W3 => nxO i (setD ys ld b) (ρ.set i (some (.own ys))) W3
      | none => .bad
    | _ => .bad
  | _ => .bad
section
variable {X : Cx} {XE : Str → Hp → Prop} {st : Stmt} {fe fk fl : SE} {i : Nat}
theorem s_set2 (h : PS X st (tAsg (tE X.K XE fe) (gTup X.K 2 (gCons (gSub (tVar i) (tE X.K XE fk) rSetL) (gCons (gSub (tVar i) (tE X.K XE fl) rSetL) gNil))))) : PS X st (tS X.K XE (sSet2 i fk fl fe)) := by
  refine h.weak fun D σ H ⟨G, ρ, W, F, R, p⟩ => ?_
  unfold sSet2 at p
  split at p
  · rename_i xs hs
    refine ⟨G, ρ, W, F, R, p.of_rOut.mono fun d W1 q v F1 H1 s1 R1 hv => ?_⟩
    split at q
    · rename_i a b
      cases hv with
      | tup ht ha =>
        cases ha with
        | cons va ha =>
          cases ha with
          | cons vb ha =>
            cases ha
            refine ⟨_, _, rfl, sqT_mono R1.fh ht, rfl, _, _, rfl, ?_⟩
            obtain ⟨v', h1, np, vs, rfl, h3, h4, h5⟩ := R1.sl i _ hs
            refine ⟨_, h1, G, ρ, W1, F1, R1, q.of_rOut.mono fun kd W2 q2 kv F2 H2 s2 R2 hk => ?_⟩
            cases hsd : setD xs kd a with
            | none => rw [hsd] at q2; exact q2.elim
            | some ys =>
              rw [hsd] at q2
              obtain ⟨v2, h1', np', vs', e1, h3', h4', h5'⟩ := R2.sl i _ hs
              rw [h1] at h1'
              cases h1'
              cases e1
              obtain ⟨n, j, rfl, hj, hall⟩ := setD_all hsd h5' (va.mono s2)
              cases hk
              refine ⟨np, vs', n, j, rfl, rfl, h4', hj, _, _, rfl, ?_⟩
              have R3 := R2.mutOwn hs h1 hall
              have hi : i < ρ.length := (List.getElem?_eq_some_iff.mp hs).1
              have hs3 : (ρ.set i (some (.own ys)))[i]? = some (some (.own ys)) := List.getElem?_set_self hi
              refine ⟨_, h1, G, _, W2, F2, R3, q2.of_rOut.mono fun kd2 W3 q3 kv2 F3 H3 s3 R4 hk2 => ?_⟩
              cases hsd2 : setD ys kd2 b with
              | none => rw [hsd2] at q3; exact q3.elim
              | some zs =>
                rw [hsd2] at q3
                obtain ⟨v4, h1'', np'', vs'', e1', h3'', h4'', h5''⟩ := R4.sl i _ hs3
                rw [h1] at h1''
                cases h1''
                cases e1'
                obtain ⟨n2, j2, rfl, hj2, hall2⟩ := setD_all hsd2 h5'' (vb.mono (s2.trans s3))
                cases hk2
                exact ⟨np, vs'', n2, j2, rfl, rfl, h4'', hj2, rfl, q3 G σ F3 _ (.refl _) ((s1.trans s2).trans s3) (R4.mutOwn hs3 h1 hall2)⟩
    · exact q.elim
  · exact p.elim
end
end Sx

namespace Sx
open PySem PySem.Spec PyProof.Rows L2
/-! ### rows of own lists -/
section
variable {K : PySem.W.Frag} {G : Gh} {ρ : Sl} {W : Tw} {σ : L2.St} {F H : Hp}
def Gh.ownL (G : Gh) (i : Nat) (L : List Addr) : Gh := { G with fp := fun j => if j = i then L else G.fp j }
theorem Gh.ownL_same (G : Gh) (i : Nat) (L : List Addr) : SameB G (G.ownL i L) := ⟨rfl, rfl, rfl, rfl⟩
theorem Rel.takeL {i : Nat} {L : List Addr} {v : V} {sv : SV} (R : Rel K G ρ W σ F H) (hi : i < ρ.length) (hf : ∀ a ∈ L, Fresh G a ∧ H a ≠ none ∧ F a = none) (hsv : SlOk K G.T F H v L sv) :
    Rel K (G.ownL i L) (ρ.set i (some sv)) W (σ.set i (some v)) F H := by
  have hne : ∀ j a, a ∈ (G.ownL i L).fp j → (j = i ∧ a ∈ L) ∨ (j ≠ i ∧ a ∈ G.fp j) := fun j a ha => by
    unfold Gh.ownL at ha
    simp only at ha
    by_cases hj : j = i
    · rw [if_pos hj] at ha; exact .inl ⟨hj, ha⟩
    · rw [if_neg hj] at ha; exact .inr ⟨hj, ha⟩
  refine ⟨R.gr, by rw [List.length_set, List.length_set]; exact R.len, R.t0, R.t1, R.tw, fun j sv e => ?_, fun j k a ha hb => ?_, fun j a ha => ?_, fun e he => ?_⟩
  · by_cases hj : i = j
    · subst hj
      rw [List.getElem?_set_self hi] at e
      cases e
      exact ⟨v, List.getElem?_set_self (by rw [← R.len]; exact hi), by unfold Gh.ownL; simp only [if_true]; exact hsv⟩
    · rw [List.getElem?_set_ne hj] at e ⊢
      obtain ⟨v, h1, h2⟩ := R.sl j sv e
      exact ⟨v, h1, by unfold Gh.ownL; simp only [if_neg (Ne.symm hj)]; exact h2⟩
  · rcases hne j a ha with ⟨h1, h2⟩ | ⟨h1, h2⟩ <;> rcases hne k a hb with ⟨h3, h4⟩ | ⟨h3, h4⟩
    · rw [h1, h3]
    · exact absurd h4 ((hf a h2).1.2.1 k)
    · exact absurd h2 ((hf a h4).1.2.1 j)
    · exact R.dj j k a h2 h4
  · rcases hne j a ha with ⟨h1, h2⟩ | ⟨h1, h2⟩
    · obtain ⟨⟨f1, f2, f3, f4⟩, f5, f6⟩ := hf a h2
      exact ⟨f6, f5, f1, f3⟩
    · exact R.fr j a h2
  · obtain ⟨h1, h2, h3, h4⟩ := R.ex e he
    refine ⟨h1, h2, h3, fun j hj => ?_⟩
    rcases hne j _ hj with ⟨_, q⟩ | ⟨_, q⟩
    · exact (hf _ q).1.2.2.2 e he rfl
    · exact h4 j q
/-- slot i is let go -/
theorem Rel.drop (R : Rel K G ρ W σ F H) (i : Nat) : Rel K (G.ownL i []) (ρ.set i none) W σ F H ∧ ∀ a ∈ G.fp i, Fresh (G.ownL i []) a := by
  have hne : ∀ j a, a ∈ (G.ownL i []).fp j → j ≠ i ∧ a ∈ G.fp j := fun j a ha => by
    unfold Gh.ownL at ha
    simp only at ha
    by_cases hj : j = i
    · rw [if_pos hj] at ha; cases ha
    · rw [if_neg hj] at ha; exact ⟨hj, ha⟩
  refine ⟨⟨R.gr, by rw [List.length_set]; exact R.len, R.t0, R.t1, R.tw, fun j sv e => ?_, fun j k a ha hb => R.dj j k a (hne j a ha).2 (hne k a hb).2, fun j a ha => R.fr j a (hne j a ha).2, fun e he => ?_⟩, fun a ha => ⟨(R.fr i a ha).2.2.1, fun j hj => (hne j a hj).1 (R.dj j i a (hne j a hj).2 ha), (R.fr i a ha).2.2.2, fun e he z => (R.ex e he).2.2.2 i (by rw [z]; exact ha)⟩⟩
  · by_cases hj : i = j
    · subst hj
      by_cases hi : i < ρ.length
      · rw [List.getElem?_set_self hi] at e; cases e
      · rw [List.getElem?_eq_none (by rw [List.length_set]; omega)] at e; cases e
    · rw [List.getElem?_set_ne hj] at e
      obtain ⟨v, h1, h2⟩ := R.sl j sv e
      exact ⟨v, h1, by unfold Gh.ownL; simp only [if_neg (Ne.symm hj)]; exact h2⟩
  · obtain ⟨h1, h2, h3, h4⟩ := R.ex e he
    exact ⟨h1, h2, h3, fun j hj => h4 j (hne j _ hj).2⟩
theorem Rel.freezeL : ∀ {qs : List Addr} {rows : List (List Dt)} {F : Hp}, Rel K G ρ W σ F H → Rows K F H qs rows → qs.Nodup → (∀ q ∈ qs, Fresh G q ∧ F q = none) →
    ∃ F', Same F F' ∧ Rel K G ρ W σ F' H ∧ DqAll K F' (qs.map V.ref) (rows.map PyData.list) ∧ ∀ a, a ∉ qs → F' a = F a
  | _, _, F, R, .nil, _, _ => ⟨F, .refl _, R, .nil, fun _ _ => rfl⟩
  | _, _, F, R, .cons (q := q) (qs := qs) (vs := vs) (r := r) (rs := rs) h a t, nd, hf => by
    obtain ⟨n1, n2⟩ := List.nodup_cons.mp nd
    obtain ⟨fr, hq⟩ := hf q (by simp)
    have sF : Same F (upd F q (.lst vs)) := same_new hq
    have R1 := R.freeze h hq fr
    have t1 : Rows K (upd F q (.lst vs)) H qs rs := t.keep sF fun _ _ => rfl
    obtain ⟨F', s1, R2, d1, k1⟩ := Rel.freezeL R1 t1 n2 fun x hx => ⟨(hf x (List.mem_cons_of_mem _ hx)).1, by
      rw [upd_ne (fun z => n1 (by rw [← z]; exact hx))]; exact (hf x (List.mem_cons_of_mem _ hx)).2⟩
    refine ⟨F', sF.trans s1, R2, .cons (.lst (.inl (.inl (s1 _ _ upd_same))) (a.mono (sF.trans s1))) d1, fun x hx => ?_⟩
    rw [k1 x fun z => hx (List.mem_cons_of_mem _ z), upd_ne fun z => hx (by rw [z]; simp)]
def frz2 (i : Nat) (ρ : Sl) : Sl := match ρ[i]? with
  | some (some (.ow2 rows)) => ρ.set i (some (.d (.list (rows.map PyData.list))))
  | _ => ρ
theorem Rel.frz2 (R : Rel K G ρ W σ F H) (i : Nat) : ∃ G' F', SameB G G' ∧ Same F F' ∧ Rel K G' (frz2 i ρ) W σ F' H := by
  unfold Sx.frz2
  split
  · rename_i rows hs
    obtain ⟨v, h1, p, qs, rfl, h3, h4, h5, h6⟩ := R.sl i _ hs
    have hi : i < ρ.length := (List.getElem?_eq_some_iff.mp hs).1
    obtain ⟨R1, hfr⟩ := R.drop i
    obtain ⟨n1, n2⟩ := List.nodup_cons.mp h6
    obtain ⟨F1, s1, R2, d1, k1⟩ := R1.freezeL h5 n2 fun q hq => ⟨hfr q (by rw [h3]; exact List.mem_cons_of_mem _ hq), (R.fr i q (by rw [h3]; exact List.mem_cons_of_mem _ hq)).1⟩
    have hpF : F1 p = none := by rw [k1 p n1]; exact (R.fr i p (by rw [h3]; simp)).1
    have sF : Same F1 (upd F1 p (.lst (qs.map V.ref))) := same_new hpF
    have R3 := R2.freeze h4 hpF (hfr p (by rw [h3]; simp))
    have R4 := R3.setD (i := i) (v := .ref p) (d := .list (rows.map PyData.list)) (by rw [List.length_set]; exact hi) (.lst (.inl (.inl upd_same)) (d1.mono sF))
    rw [List.set_set] at R4
    have hσ : σ.set i (some (.ref p)) = σ := by
      refine List.ext_getElem? fun j => ?_
      by_cases hj : i = j
      · subst hj
        rw [List.getElem?_set_self (by rw [← R.len]; exact hi)]; exact h1.symm
      · rw [List.getElem?_set_ne hj]
    rw [hσ] at R4
    exact ⟨_, _, G.ownL_same i [], s1.trans sF, R4⟩
  · exact ⟨G, F, .refl _, .refl _, R⟩
end
section
variable {X : Cx} {XE : Str → Hp → Prop} {st : Stmt} {fa : SS}
theorem s_frz2 (i : Nat) (h : PS X st (tS X.K XE fa)) : PS X st (tS X.K XE (fun ρ W => fa (frz2 i ρ) W)) := by
  refine h.weak fun D σ H ⟨G, ρ, W, F, R, p⟩ => ?_
  obtain ⟨G', F', b, s, R'⟩ := R.frz2 i
  exact ⟨G', frz2 i ρ, W, F', R', p.shift b s⟩
end
/-! a comprehension that makes rows -/
def cL2 (g : SG) (e : SA) (ρ0 : Sl) : List Dt → Tw → Res (List (List Dt) × Tw)
  | [], W => .ok ([], W)
  | d :: ds, W => match g d ρ0 with
    | none => .bad
    | some ρ1 => (nox (e ρ1 W)).bind fun q => (cL2 g e ρ0 ds q.2).bind fun r => .ok (q.1 :: r.1, r.2)
def sOw2 (i : Nat) (it : SA) (g : SG) (e : SA) (vs : List Nat) : SS := fun ρ W => rOut (it ρ W) fun ds W1 => if ds.length ≤ 100000 ∧ wipeOk ρ vs = true ∧ i < ρ.length then
    rOut (nox (cL2 g e (wipeS ρ vs) ds W1)) fun rows W2 => .nx (ρ.set i (some (.ow2 rows))) W2 else .bad
theorem cL2_cases {g : SG} {e : SA} {ρ0 : Sl} {d : Dt} {ds : List Dt} {W : Tw} {zs : List (List Dt)} {Wf : Tw} (h : cL2 g e ρ0 (d :: ds) W = .ok (zs, Wf)) :
    ∃ ρ1 z W2 r, g d ρ0 = some ρ1 ∧ e ρ1 W = .ok (z, W2) ∧ cL2 g e ρ0 ds W2 = .ok (r, Wf) ∧ zs = z :: r := by
  unfold cL2 at h
  cases hg : g d ρ0 with
  | none => rw [hg] at h; cases h
  | some ρ1 =>
    simp only [hg] at h
    cases he : e ρ1 W with
    | exc x => rw [he] at h; cases h
    | bad => rw [he] at h; cases h
    | ok q =>
      obtain ⟨z, W2⟩ := q
      rw [he] at h
      simp only [nox_ok, Res.bind_ok] at h
      cases hr : cL2 g e ρ0 ds W2 with
      | exc x => rw [hr] at h; cases h
      | bad => rw [hr] at h; cases h
      | ok r =>
        rw [hr] at h
        simp only [Res.bind_ok, Res.ok.injEq, Prod.mk.injEq] at h
        obtain ⟨h1, h2⟩ := h
        exact ⟨ρ1, z, W2, r.1, rfl, he, by rw [hr, ← h2], h1.symm⟩
inductive RowE (K : PySem.W.Frag) (F : Hp) : List (Addr × HO) → List Addr → List (List Dt) → Prop
  | nil : RowE K F [] [] []
  | snoc {es : List (Addr × HO)} {qs : List Addr} {rows : List (List Dt)} {q : Addr} {vs : List V} {r : List Dt} : RowE K F es qs rows → DqAll K F vs r → RowE K F (es ++ [(q, .lst vs)]) (qs ++ [q]) (rows ++ [r])
theorem RowE.mono {K : PySem.W.Frag} {F F' : Hp} (s : Same F F') : ∀ {es : List (Addr × HO)} {qs : List Addr} {rows : List (List Dt)}, RowE K F es qs rows → RowE K F' es qs rows := fun h => by
  induction h with
  | nil => exact .nil
  | snoc _ a ih => exact .snoc ih (a.mono s)
theorem RowE.keys {K : PySem.W.Frag} {F : Hp} {es : List (Addr × HO)} {qs : List Addr} {rows : List (List Dt)} (h : RowE K F es qs rows) : qs = es.map (·.1) ∧ qs.length = rows.length := by
  induction h with
  | nil => exact ⟨rfl, rfl⟩
  | snoc _ _ ih => exact ⟨by rw [List.map_append, ← ih.1]; rfl, by rw [List.length_append, List.length_append, ih.2]; rfl⟩
theorem Rows.snoc {K : PySem.W.Frag} {F H : Hp} {q : Addr} {vs : List V} {r : List Dt} (hq : H q = some (.lst vs)) (ha : DqAll K F vs r) : ∀ {qs : List Addr} {rows : List (List Dt)}, Rows K F H qs rows → Rows K F H (qs ++ [q]) (rows ++ [r])
  | _, _, .nil => .cons hq ha .nil
  | _, _, .cons h a t => .cons h a (Rows.snoc hq ha t)
theorem RowE.rows {K : PySem.W.Frag} {F H : Hp} {es : List (Addr × HO)} {qs : List Addr} {rows : List (List Dt)} (h : RowE K F es qs rows) (hH : ∀ e ∈ es, H e.1 = some e.2) : Rows K F H qs rows := by
  induction h with
  | nil => exact .nil
  | @snoc es qs rows q vs r _ a ih => exact Rows.snoc (hH (q, .lst vs) (List.mem_append_right _ (by simp))) a (ih fun e he => hH e (List.mem_append_left _ he))
section
variable {X : Cx} {XE : Str → Hp → Prop} {it : SA} {g : SG} {e : SA} {is vs : List Nat} {i : Nat} {st : Stmt}
theorem s_ow2 (hsub : ∀ j ∈ is, j ∈ vs) (h : PS X st (tAsg (tLc (tI X.K XE it) (tG X.K is g) (tT X.K X0 bYes) (tL X.K X0 e) vs) (gName i))) : PS X st (tS X.K XE (sOw2 i it g e vs)) := by
  refine h.weak fun DD σ H ⟨G, ρ, W, F, R, p⟩ => ?_
  refine ⟨G, ρ, W, F, R, p.of_rOut.mono fun ds W1 q J F1 H1 s1 R1 wk D hD => ?_⟩
  obtain ⟨⟨hlen, hok, hi⟩, q⟩ := Po.of_ite q
  have hcl : ∃ zs Wf, cL2 g e (wipeS ρ vs) ds W1 = .ok (zs, Wf) := by
    cases hz : cL2 g e (wipeS ρ vs) ds W1 with
    | ok r => exact ⟨r.1, r.2, rfl⟩
    | exc x => rw [hz] at q; exact q.elim
    | bad => rw [hz] at q; exact q.elim
  obtain ⟨zs, Wf, hcl⟩ := hcl
  rw [hcl] at q
  have fr := R1.fresh hD
  have RD : Rel X.K { G with ext := (D, .lst []) :: G.ext } (wipeS ρ vs) W1 (wipe σ vs) F1 (upd H1 D (.lst [])) :=
    ((R1.grow (Gr.newH R1.fh hD)).aside upd_same (R1.fh.free hD) fr).wiped vs
  refine lc_it wk (fun k H2 => ∃ Wi Fi es qs acc rest, Rel X.K { G with ext := (D, .lst (qs.map V.ref)) :: (es ++ G.ext) } (wipeS ρ vs) Wi (wipe σ vs) Fi H2 ∧ Same F1 Fi ∧ RowE X.K Fi es qs acc ∧ qs.Nodup ∧ (∀ q ∈ qs, Fresh G q ∧ q ≠ D) ∧ cL2 g e (wipeS ρ vs) (ds.drop k) Wi = .ok (rest, Wf) ∧ zs = acc ++ rest ∧ acc.length ≤ k)
    ⟨W1, F1, [], [], [], zs, RD, .refl _, .nil, .nil, fun q hq => (by cases hq), by rw [List.drop_zero]; exact hcl, rfl, Nat.le_refl _⟩ (fun k H2 _ ⟨Wi, Fi, _, _, _, _, Ri, si, _⟩ => ⟨Fi, si, Ri.fh⟩) ?_ ?_
  · rintro k x H2 H3 hk ⟨Wi, Fi, es, qs, acc, rest, Ri, si, da, nd, hfq, hc, hzs, hal⟩ hy
    obtain ⟨F3, d, hd, gr, hx⟩ := hy Fi si Ri.fh
    have hdrop : ds.drop k = d :: ds.drop (k + 1) := by
      obtain ⟨h1, h2⟩ := List.getElem?_eq_some_iff.mp hd
      rw [List.drop_eq_getElem_cons h1, h2]
    rw [hdrop] at hc
    obtain ⟨ρ1, z, W2, r, hg, he, hr, hz⟩ := cL2_cases hc
    have R3 := Ri.grow gr
    refine ⟨_, wipeS ρ vs, Wi, F3, d, ρ1, R3, hx, hg, fun hk σ2 hl hj R4 => ⟨wipe_eq hl hj hsub, _, ρ1, Wi, F3, R4, ?_⟩⟩
    have back : ∀ {W5 : Tw} {F5 H5 : Hp} {E : List (Addr × HO)}, Rel X.K { G with ext := E } ρ1 W5 σ2 F5 H5 → Rel X.K { G with ext := E } (wipeS ρ vs) W5 (wipe σ vs) F5 H5 := fun R5 =>
      R5.restrict (by rw [wipeS_length, wipe_length]; exact R.len) fun j sv ej => by
        obtain ⟨_, hjv⟩ := wipeS_some ej
        exact ⟨by rw [hk j fun z => hjv (hsub j z)]; exact ej, hj j fun z => hjv (hsub j z)⟩
    intro F4 H4 s4 R5
    simp only [if_true]
    refine ⟨_, ρ1, Wi, F4, R5, ?_⟩
    rw [he]
    intro np us F5 H5 s5 R6 frp hp hF hv
    have hpD : np ≠ D := fun w => frp.2.2.2 (D, .lst (qs.map V.ref)) (List.mem_cons_self ..) w.symm
    have hpq : np ∉ qs := fun w => by
      rw [da.keys.1] at w
      obtain ⟨e', he', hee⟩ := List.mem_map.mp w
      exact frp.2.2.2 e' (List.mem_cons_of_mem _ (List.mem_append_left _ he')) hee
    have hpG : Fresh G np := ⟨frp.1, frp.2.1, frp.2.2.1, fun e' he' => frp.2.2.2 e' (List.mem_cons_of_mem _ (List.mem_append_right _ he'))⟩
    have R7 := R6.aside hp hF frp
    have R8 : Rel X.K { G with ext := (D, .lst (qs.map V.ref)) :: ((es ++ [(np, .lst us)]) ++ G.ext) } ρ1 W2 σ2 F5 H5 := R7.extSub fun e' he' => by
      rcases List.mem_cons.mp he' with w | w
      · exact List.mem_cons_of_mem _ (by rw [w]; exact List.mem_cons_self ..)
      · rcases List.mem_append.mp w with w | w
        · rcases List.mem_append.mp w with w | w
          · exact List.mem_cons_of_mem _ (List.mem_cons_of_mem _ (List.mem_append_left _ w))
          · rw [List.mem_singleton.mp w]; exact List.mem_cons_self ..
        · exact List.mem_cons_of_mem _ (List.mem_cons_of_mem _ (List.mem_append_right _ w))
    obtain ⟨x1, x2, x3, x4⟩ := R8.ex (D, .lst (qs.map V.ref)) (List.mem_cons_self ..)
    have sF : Same Fi F5 := (gr.ff.trans s4).trans s5
    have hle : acc.length < 100000 := by
      have := (List.getElem?_eq_some_iff.mp hd).1
      omega
    have hnD : ∀ e' ∈ (es ++ [(np, HO.lst us)]) ++ G.ext, e'.1 ≠ D := fun e' he' => by
      rcases List.mem_append.mp he' with w | w
      · rcases List.mem_append.mp w with w | w
        · have : e'.1 ∈ qs := by rw [da.keys.1]; exact List.mem_map_of_mem w
          exact (hfq _ this).2
        · rw [List.mem_singleton.mp w]; exact hpD
      · exact fr.2.2.2 e' w
    refine ⟨qs.map V.ref, x1, Nat.lt_of_lt_of_le (by rw [List.length_map, da.keys.2]; exact hle) (sz5 (Nat.le_refl _)), W2, F5, es ++ [(np, .lst us)], qs ++ [np], acc ++ [z], r, ?_, si.trans sF, .snoc (da.mono sF) hv, ?_, fun a ha => ?_, hr, ?_, ?_⟩
    · rw [List.map_append]
      exact back (R8.setExt hnD fr.1)
    · rw [List.nodup_append]
      exact ⟨nd, by simp, fun a ha b hb => by rw [List.mem_singleton.mp hb]; exact fun w => hpq (by rw [← w]; exact ha)⟩
    · rcases List.mem_append.mp ha with w | w
      · exact hfq a w
      · rw [List.mem_singleton.mp w]; exact ⟨hpG, hpD⟩
    · rw [hzs, hz, List.append_assoc]; rfl
    · rw [List.length_append, List.length_singleton]; omega
  · rintro H2 ⟨Wi, Fi, es, qs, acc, rest, Ri, si, da, nd, hfq, hc, hzs, hal⟩
    rw [List.drop_length] at hc
    have hc : Res.ok (([] : List (List Dt)), Wi) = .ok (rest, Wf) := hc
    simp only [Res.ok.injEq, Prod.mk.injEq] at hc
    obtain ⟨hc1, hc2⟩ := hc
    subst hc1
    subst hc2
    rw [List.append_nil] at hzs
    subst hzs
    obtain ⟨x1, x2, x3, x4⟩ := Ri.ex (D, .lst (qs.map V.ref)) (List.mem_cons_self ..)
    have hE : ∀ e' ∈ es, H2 e'.1 = some e'.2 ∧ Fi e'.1 = none := fun e' he' => by
      obtain ⟨y1, y2, _⟩ := Ri.ex e' (List.mem_cons_of_mem _ (List.mem_append_left _ he'))
      exact ⟨y1, y2⟩
    have R9 : Rel X.K { G with ext := G.ext } (wipeS ρ vs) Wi (wipe σ vs) Fi H2 := Ri.extSub fun e' he' => List.mem_cons_of_mem _ (List.mem_append_right _ he')
    have R10 := R1.unwiped R9 si hok
    have R11 := R10.takeL (i := i) (L := D :: qs) (v := .ref D) (sv := .ow2 zs) hi (fun a ha => by
      rcases List.mem_cons.mp ha with w | w
      · rw [w]; exact ⟨fr, (by rw [x1]; exact fun z => nomatch z), x2⟩
      · have hw := w
        rw [da.keys.1] at w
        obtain ⟨e', he', hee⟩ := List.mem_map.mp w
        obtain ⟨y1, y2⟩ := hE e' he'
        rw [← hee]
        rw [← hee] at hw
        exact ⟨(hfq _ hw).1, (by rw [y1]; exact fun z => nomatch z), y2⟩) ⟨D, qs, rfl, rfl, x1, da.rows fun e' he' => (hE e' he').1, List.nodup_cons.mpr ⟨fun w => (hfq D w).2 rfl, nd⟩⟩
    exact q _ _ Fi H2 (G.ownL_same i (D :: qs)) (s1.trans si) R11
end
/-! reading and writing an item of a row -/
def rowAt (rows : List (List Dt)) : Dt → Option (List Dt)
  | .int a => atI rows a
  | _ => none
def eIx2 (i : Nat) (fk fl : SE) : SE := fun ρ W => match ρ[i]? with
  | some (some (.ow2 rows)) => (fk ρ W).bind fun p => (ofO (rowAt rows p.1) p.2).bind fun r => (fl ρ r.2).bind fun q => ofO (ixD (.list r.1) q.1) q.2
  | _ => .bad
def putRow (rows : List (List Dt)) (k : Dt) (r : List Dt) : List (List Dt) := match k with
  | .int a => match ixN rows.length a with
    | some j => rows.set j r
    | none => rows
  | _ => rows
def nx2 (i : Nat) (o : Option (List Dt)) (rows : List (List Dt)) (k : Dt) (ρ : Sl) (W : Tw) : Out := match o with
  | some r => .nx (ρ.set i (some (.ow2 (putRow rows k r)))) W
  | none => .bad
def sSet3 (i : Nat) (fk fl fe : SE) : SS := fun ρ W => match ρ[i]? with
  | some (some (.ow2 rows)) => rOut (fe ρ W) fun d W1 => rOut (fk ρ W1) fun kd W2 => rOut (ofO (rowAt rows kd) W2) fun r W3 => rOut (fl ρ W3) fun ld W4 => nx2 i (setD r ld d) rows kd ρ W4
  | _ => .bad
theorem Rows.get {K : PySem.W.Frag} {F H : Hp} {r : List Dt} : ∀ {qs : List Addr} {rows : List (List Dt)} {j : Nat}, Rows K F H qs rows → rows[j]? = some r → ∃ q vs, qs[j]? = some q ∧ H q = some (.lst vs) ∧ DqAll K F vs r
  | _, _, _, .nil, h => by simp at h
  | _, _, 0, .cons hq ha t, h => by
    simp at h
    subst h
    exact ⟨_, _, rfl, hq, ha⟩
  | _, _, j + 1, .cons hq ha t, h => by
    obtain ⟨q, vs, h1, h2, h3⟩ := Rows.get t (by simpa using h)
    exact ⟨q, vs, by simpa using h1, h2, h3⟩
theorem Rows.length {K : PySem.W.Frag} {F H : Hp} : ∀ {qs : List Addr} {rows : List (List Dt)}, Rows K F H qs rows → qs.length = rows.length
  | _, _, .nil => rfl
  | _, _, .cons _ _ t => by rw [List.length_cons, List.length_cons, t.length]
theorem Rows.mut {K : PySem.W.Frag} {F H : Hp} {q : Addr} {us : List V} {r : List Dt} (hd : DqAll K F us r) : ∀ {qs : List Addr} {rows : List (List Dt)} {j : Nat}, Rows K F H qs rows → qs.Nodup → qs[j]? = some q → Rows K F (upd H q (.lst us)) qs (rows.set j r)
  | _, _, _, .nil, _, h => by simp at h
  | _, _, 0, .cons (q := q0) (qs := qs) hq ha t, nd, h => by
    have h : q0 = q := by simpa using h
    rw [h] at nd ⊢
    obtain ⟨n1, n2⟩ := List.nodup_cons.mp nd
    refine .cons upd_same hd ?_
    have : ∀ {qs' : List Addr} {rs : List (List Dt)}, (∀ a ∈ qs', a ≠ q) → Rows K F H qs' rs → Rows K F (upd H q (.lst us)) qs' rs := by
      intro qs' rs hm r
      induction r with
      | nil => exact .nil
      | cons hq a t ih => exact .cons (by rw [upd_ne (hm _ (by simp))]; exact hq) a (ih fun b hb => hm b (List.mem_cons_of_mem _ hb))
    exact this (fun a ha e => n1 (by rw [← e]; exact ha)) t
  | _, _, j + 1, .cons (qs := qs) hq ha t, nd, h => by
    obtain ⟨n1, n2⟩ := List.nodup_cons.mp nd
    have h : qs[j]? = some q := by simpa using h
    have hm := List.mem_of_getElem? h
    refine .cons (by rw [upd_ne fun e => n1 (by rw [e]; exact hm)]; exact hq) ha ?_
    exact Rows.mut hd t n2 h
section
variable {K : PySem.W.Frag} {G : Gh} {ρ : Sl} {W : Tw} {σ : L2.St} {F H : Hp}
/-- a row of slot i's is changed -/
theorem Rel.mutRow {i j : Nat} {p q : Addr} {qs : List Addr} {rows : List (List Dt)} {r : List Dt} {us : List V} (R : Rel K G ρ W σ F H) (hs : ρ[i]? = some (some (.ow2 rows))) (hσ : σ[i]? = some (some (.ref p))) (hfp : G.fp i = p :: qs) (hq : qs[j]? = some q) (hd : DqAll K F us r) :
    Rel K G (ρ.set i (some (.ow2 (rows.set j r)))) W σ F (upd H q (.lst us)) := by
  obtain ⟨v, h1, p', qs', h2, h3, h4, h5, h6⟩ := R.sl i _ hs
  rw [hσ] at h1
  cases h1
  cases h2
  rw [hfp] at h3
  cases h3
  have hi : i < ρ.length := (List.getElem?_eq_some_iff.mp hs).1
  have hqm := List.mem_of_getElem? hq
  have hm : q ∈ G.fp i := by rw [hfp]; exact List.mem_cons_of_mem _ hqm
  obtain ⟨n1, n2⟩ := List.nodup_cons.mp h6
  obtain ⟨q1, q2, q3, q4⟩ := R.fr i q hm
  refine ⟨⟨R.gr.ff, same_mut R.fh q1, R.gr.nw, fun a u e n => ?_, fun a e => ?_⟩, by rw [List.length_set]; exact R.len, R.t0, R.t1, ?_, fun j sv e => ?_, R.dj, fun j a ha => ?_, fun e he => ?_⟩
  · rw [upd_ne (fun z => by rw [z, q3] at e; cases e)]
    exact R.gr.kp a u e n
  · by_cases ha : a = q
    · subst ha; rw [upd_same]; exact fun z => nomatch z
    · rw [upd_ne ha]; exact R.gr.th a e
  · have t := R.tw
    revert t
    cases hT : G.T <;> cases W <;> intro t
    · trivial
    · exact t
    · exact t
    · obtain ⟨tv, h1, h2, h3⟩ := t
      exact ⟨tv, by rw [upd_ne (fun z => q4 (by rw [hT, z]))]; exact h1, h2, h3⟩
  · by_cases hj : i = j
    · subst hj
      rw [List.getElem?_set_self hi] at e
      cases e
      exact ⟨.ref p, hσ, p, qs, rfl, hfp, by rw [upd_ne fun z => n1 (by rw [z]; exact hqm)]; exact h4, h5.mut hd n2 hq, h6⟩
    · rw [List.getElem?_set_ne hj] at e
      obtain ⟨v, h1, h2⟩ := R.sl j sv e
      have k : ∀ a, H a ≠ none → a ∈ G.fp j → upd H q (.lst us) a = H a := fun a _ ha => upd_ne fun z => hj (R.dj i j q hm (by rw [← z]; exact ha))
      exact ⟨v, h1, h2.keep (.refl _) k k⟩
  · obtain ⟨h1, h2, h3, h4⟩ := R.fr j a ha
    refine ⟨h1, ?_, h3, h4⟩
    by_cases hz : a = q
    · subst hz; rw [upd_same]; exact fun z => nomatch z
    · rw [upd_ne hz]; exact h2
  · obtain ⟨h1, h2, h3, h4⟩ := R.ex e he
    exact ⟨by rw [upd_ne (fun z => h4 i (by rw [z]; exact hm))]; exact h1, h2, h3, h4⟩
end
section
variable {X : Cx} {XE : Str → Hp → Prop} {st : Stmt} {e b c : Expr} {fe fk fl : SE} {pos : Pos} {i : Nat}
theorem row_at {rows : List (List Dt)} {a : Int} {r : List Dt} {K : PySem.W.Frag} {F H : Hp} {qs : List Addr} (h : atI rows a = some r) (hr : Rows K F H qs rows) : ∃ j q vs, ixN rows.length a = some j ∧ rows[j]? = some r ∧ qs[j]? = some q ∧ atI (qs.map V.ref) a = some (.ref q) ∧ H q = some (.lst vs) ∧ DqAll K F vs r := by
  unfold atI at h
  cases hj : ixN rows.length a with
  | none => rw [hj] at h; cases h
  | some j =>
    rw [hj] at h
    have h : rows[j]? = some r := h
    obtain ⟨q, vs, h1, h2, h3⟩ := hr.get h
    refine ⟨j, q, vs, rfl, h, h1, ?_, h2, h3⟩
    unfold atI
    rw [List.length_map, hr.length, hj]
    show (qs.map V.ref)[j]? = _
    rw [List.getElem?_map, h1]; rfl
theorem d_ix2 {x : Str} {p2 p3 : Pos} (hx : PE X (.Name x p2) (tVar i)) (hb : PE X b (tE X.K XE fk)) (hs : PlainIx b) (hc : PE X c (tE X.K XE fl)) (hs2 : PlainIx c) : PE X (.Subscript (.Subscript (.Name x p2) b p3) c pos) (tE X.K XE (eIx2 i fk fl)) := by
  refine (pe_ix ix_list (pe_ix ix_list hx hb hs) hc hs2).weak fun σ H Q ⟨G, ρ, W, F, R, p⟩ => ?_
  unfold eIx2 at p
  split at p
  · rename_i rows hs
    obtain ⟨v', h1, pp, qs, rfl, h3, h4, h5, h6⟩ := R.sl i _ hs
    refine ⟨_, h1, G, ρ, W, F, R, p.of_bind.mono fun kd W1 q kv F1 H1 s1 R1 hk => ?_⟩
    obtain ⟨v1, k1, pp1, qs1, e1, k3, k4, k5, k6⟩ := R1.sl i _ hs
    rw [h1] at k1
    cases k1
    cases e1
    rw [h3] at k3
    cases k3
    obtain ⟨r, hr, q⟩ := Pg.of_ofO q.of_bind
    cases kd <;> simp only [rowAt] at hr <;> try (cases hr; done)
    cases hk
    obtain ⟨j, rq, vs, r1, r2, r3, r4, r5, r6⟩ := row_at hr k5
    refine ⟨pp, _, _, .ref rq, rfl, rfl, SqL.of k4, r4, G, ρ, W1, F1, R1, q.of_bind.mono fun ld W2 q2 lv F2 H2 s2 R2 hl => ?_⟩
    obtain ⟨z, hz, q3⟩ := Pg.of_ofO q2
    obtain ⟨v2, m1, pp2, qs2, e2, m3, m4, m5, m6⟩ := R2.sl i _ hs
    rw [h1] at m1
    cases m1
    cases e2
    rw [h3] at m3
    cases m3
    obtain ⟨rq', vs', u1, u2, u3⟩ := m5.get r2
    rw [r3] at u1
    cases u1
    cases ld <;> simp only [ixD] at hz <;> try (cases hz; done)
    cases hl
    obtain ⟨w, w1, w2⟩ := atI_all u3 hz
    exact ⟨rq, vs', _, w, rfl, rfl, SqL.of u2, w1, q3 w F2 H2 (s1.trans s2) R2 w2⟩
  · exact p.elim
theorem s_set3 (h : PS X st (tAsg (tE X.K XE fe) (gSub (tOp (rIxL X.K) (tVar i) (tE X.K XE fk)) (tE X.K XE fl) rSetL))) : PS X st (tS X.K XE (sSet3 i fk fl fe)) := by
  refine h.weak fun D σ H ⟨G, ρ, W, F, R, p⟩ => ?_
  unfold sSet3 at p
  split at p
  · rename_i rows hs
    refine ⟨G, ρ, W, F, R, p.of_rOut.mono fun d W1 q v F1 H1 s1 R1 hv => ?_⟩
    obtain ⟨v', h1, pp, qs, rfl, h3, h4, h5, h6⟩ := R1.sl i _ hs
    refine ⟨_, h1, G, ρ, W1, F1, R1, q.of_rOut.mono fun kd W2 q2 kv F2 H2 s2 R2 hk => ?_⟩
    obtain ⟨v1, k1, pp1, qs1, e1, k3, k4, k5, k6⟩ := R2.sl i _ hs
    rw [h1] at k1
    cases k1
    cases e1
    rw [h3] at k3
    cases k3
    obtain ⟨r, hr, q2⟩ := Pg.of_ofO q2.of_rOut
    cases kd <;> simp only [rowAt] at hr <;> try (cases hr; done)
    rename_i ki _
    cases hk
    obtain ⟨j, rq, vs, r1, r2, r3, r4, r5, r6⟩ := row_at hr k5
    refine ⟨pp, _, _, .ref rq, rfl, rfl, SqL.of k4, r4, G, ρ, W2, F2, R2, q2.of_rOut.mono fun ld W3 q3 lv F3 H3 s3 R3 hl => ?_⟩
    obtain ⟨v2, m1, pp2, qs2, e2, m3, m4, m5, m6⟩ := R3.sl i _ hs
    rw [h1] at m1
    cases m1
    cases e2
    rw [h3] at m3
    cases m3
    obtain ⟨rq', vs', u1, u2, u3⟩ := m5.get r2
    rw [r3] at u1
    cases u1
    cases hsd : setD r ld d with
    | none => rw [hsd] at q3; exact q3.elim
    | some ys =>
      rw [hsd] at q3
      obtain ⟨n, jj, rfl, hj, hall⟩ := setD_all hsd u3 (hv.mono (s2.trans s3))
      cases hl
      have R4 := R3.mutRow hs h1 h3 r3 hall
      have hput : putRow rows (.int ki) ys = rows.set j ys := by
        unfold putRow
        simp only [r1]
      refine ⟨rq, vs', n, jj, rfl, rfl, u2, hj, ?_⟩
      rw [← hput] at R4
      exact q3 G σ F3 _ (.refl _) ((s1.trans s2).trans s3) R4
  · exact p.elim
end
end Sx

namespace Sx
open PySem PySem.Spec PyProof.Rows L2

def lB__law_exchanged_1 : SS :=
    (sSeq (sAsg 6 (eVar 4))
    (sSeq (sIf (bOf (eBin inD (eVar 4) (eTup (aCons (eVar 1) (aCons (eVar 2) aNil))))) (sAsg 6 (eBin subD (eBin addD (eVar 1) (eVar 2)) (eVar 4))) sPass)
    (sApp 3 (eTup (aCons (eVar 6) (aCons (eVar 5) aNil))))))
def B__law_exchanged : SS :=
    (sSeq (sOwn 3 (lLst aNil))
    (sSeq (sFor (iSeq (eVar 0)) (gTu 2 (gsCons (gN 4) (gsCons (gN 5) gsNil))) lB__law_exchanged_1)
    (sRet (eCB tupleD (aCons (eFrz (lCB sortD (aCons (eBor 3) aNil))) aNil)))))
def F__law_exchanged := runP 7 B__law_exchanged

def cE_pay_rungs_1 : SA :=
    (lBin mulL (eFrz (lLst (aCons (eC (PyData.tuple [.int 0, .int 1])) aNil))) (eBin ixD (eVar 0) (eC (.int 0))))
def lB_pay_rungs_3 : SS :=
    (sSet3 2 (eVar 4) (eVar 8) (eCall 2 F_plus (aCons (eIx2 2 (eVar 4) (eVar 8)) (aCons (eCall 2 F_product (aCons (eVar 7) (aCons (eVar 9) aNil))) aNil))))
def lB_pay_rungs_2 : SS :=
    (sSeq (sAsg 7 (eIf (bOf (eBin isD (eVar 5) (eC .none))) (eVar 3) (eCall 2 F_lesser (aCons (eVar 3) (aCons (eVar 5) aNil)))))
    (sSeq (sAsg 3 (eCall 2 F_minus (aCons (eVar 3) (aCons (eVar 7) aNil))))
    (sFor (iEnum' (aCons (eVar 6) aNil)) (gTu 2 (gsCons (gN 8) (gsCons (gN 9) gsNil))) lB_pay_rungs_3)))
def cE_pay_rungs_4 : SE :=
    (eCB tupleD (aCons (eVar 11) aNil))
def B_pay_rungs : SS :=
    (sSeq (sExpr (eCall 1 F_check_ladder (aCons (eVar 0) aNil)))
    (sSeq (sExpr (eCall 1 F_check_amount (aCons (eVar 1) aNil)))
    (sSeq (sOw2 2 (iSeq (eBin ixD (eVar 0) (eC (.int 1)))) (gN 10) cE_pay_rungs_1 [10])
    (sSeq (sAsg 3 (eVar 1))
    (sSeq (sFor (iSeq (eCall 1 F_pieces_of (aCons (eVar 0) aNil))) (gTu 3 (gsCons (gN 4) (gsCons (gN 5) (gsCons (gN 6) gsNil)))) lB_pay_rungs_2)
    (fun ρ W => (sRet (eCB tupleD (aCons (eFrz (lComp (iSeq (eVar 2)) (gN 11) bYes cE_pay_rungs_4 [11])) aNil))) (frz2 2 ρ) W))))))
def F_pay_rungs := runP 12 B_pay_rungs

end Sx

namespace Mx
/-! two holders exchanged -/
def exT (a b h : Nat) : Nat := if h = a then b else if h = b then a else h
theorem exT_inv (a b h : Nat) : exT a b (exT a b h) = h := by
  unfold exT
  by_cases h1 : h = a
  · subst h1; simp
  · by_cases h2 : h = b
    · subst h2; simp [h1]
    · simp [h1, h2]
theorem exT_lt {a b h n : Nat} (ha : a < n) (hb : b < n) (hh : h < n) : exT a b h < n := by unfold exT; split <;> (try split) <;> omega
def mapT {β : Type} (τ : Nat → Nat) (A : List (Nat × β)) : List (Nat × β) := A.map fun p => (τ p.1, p.2)
theorem lk_iff {β : Type} {A : List (Nat × β)} (d : Dis A) {h : Nat} {v : β} : lk A h = some v ↔ (h, v) ∈ A := ⟨lk_mem, fun m => mem_lk d m⟩
theorem opt_ext {β : Type} {o o' : Option β} (h : ∀ v, o = some v ↔ o' = some v) : o = o' := by
  cases o with
  | none => cases o' with
    | none => rfl
    | some v => exact absurd ((h v).mpr rfl) (by simp)
  | some v => exact ((h v).mp rfl).symm
theorem dis_perm {β : Type} {A B : List (Nat × β)} (p : A.Perm B) (d : Dis A) : Dis B := (p.pairwise_iff (fun h => fun e => h e.symm)).mp d
theorem dis_mapT {β : Type} {τ : Nat → Nat} (inv : ∀ h, τ (τ h) = h) {A : List (Nat × β)} (d : Dis A) : Dis (mapT τ A) := List.pairwise_map.mpr (d.imp fun h e => h (by have := congrArg τ e; rw [inv, inv] at this; exact this))
theorem lk_ex {β : Type} {τ : Nat → Nat} (inv : ∀ h, τ (τ h) = h) {A A' : List (Nat × β)} (d : Dis A) (p : A'.Perm (mapT τ A)) (h : Nat) : lk A' h = lk A (τ h) := by
  have d2 := dis_mapT inv d
  have d' : Dis A' := dis_perm p.symm d2
  refine opt_ext fun v => ?_
  rw [lk_iff d', lk_iff d, p.mem_iff]
  unfold mapT
  rw [List.mem_map]
  constructor
  · rintro ⟨q, hq, e⟩
    cases e
    rw [inv]; exact hq
  · intro hm
    exact ⟨(τ h, v), hm, by rw [inv]⟩
theorem sm_perm {A B : List (Nat × Nat)} {f : Nat → Rat} (p : A.Perm B) : sm A f = sm B f := by
  induction p with
  | nil => rfl
  | cons x _ ih => rw [sm_cons, sm_cons, ih]
  | swap x y l => rw [sm_cons, sm_cons, sm_cons, sm_cons]; grind
  | trans _ _ h1 h2 => rw [h1, h2]
theorem sm_mapT {τ : Nat → Nat} (inv : ∀ h, τ (τ h) = h) {f : Nat → Rat} : ∀ A : List (Nat × Nat), sm (mapT τ A) (fun h => f (τ h)) = sm A f
  | [] => rfl
  | p :: A => by
    have := sm_mapT inv (f := f) A
    unfold mapT at this ⊢
    rw [List.map_cons, sm_cons, sm_cons, this]
    simp only [inv]
structure RunEx (τ : Nat → Nat) (r r' : Rung) : Prop where
  A : r'.A.Perm (mapT τ r.A)
  C : r'.C.Perm (mapT τ r.C)
theorem ratC_ex {τ : Nat → Nat} {C C' : List (Nat × Nat)} (p : C'.Perm (mapT τ C)) : (ratC C').Perm (mapT τ (ratC C)) := by
  have := p.map (fun q : Nat × Nat => (q.1, (q.2 : Rat)))
  unfold ratC mapT at *
  rw [List.map_map] at this
  rw [List.map_map]
  exact this
theorem dis_ratC {C : List (Nat × Nat)} (d : Dis C) : Dis (ratC C) := dis_map (fun (_ : Nat) (c : Nat) => (c : Rat)) d
theorem wf_ex {τ : Nat → Nat} (inv : ∀ h, τ (τ h) = h) {r r' : Rung} {x : Rat} {f : Nat → Rat} (dA : Dis r.A) (dC : Dis r.C) (e : RunEx τ r r') (h : WF r.A (ratC r.C) x f) : WF r'.A (ratC r'.C) x (fun j => f (τ j)) := by
  obtain ⟨t, ht, h1, h2⟩ := h.ex
  have eA := lk_ex inv dA e.A
  have eC := lk_ex inv (dis_ratC dC) (ratC_ex e.C)
  have es : sm r'.A (fun j => f (τ j)) = sm r.A f := by rw [sm_perm e.A, sm_mapT inv]
  refine ⟨t, ht, fun j => ?_, ?_⟩
  · rw [h1 (τ j)]
    unfold mf
    rw [eA, eC]
  · rw [es]
    rcases h2 with z | ⟨z, hall⟩
    · exact .inl z
    · refine .inr ⟨z, fun p hp => ?_⟩
      have hp' := e.A.mem_iff.mp hp
      obtain ⟨q, hq, rfl⟩ := List.mem_map.mp hp'
      obtain ⟨c, c1, c2⟩ := hall q hq
      refine ⟨c, ?_, ?_⟩
      · rw [eC]; simp only [inv]; exact c1
      · simp only [inv]; exact c2
theorem ok_dis {n : Nat} {r : Rung} (h : r.Ok n) : Dis r.A ∧ Dis r.C ∧ ∀ p ∈ r.A, p.1 < n := by
  cases r with
  | fixed s => exact ⟨h.2.dis, h.2.dis, fun p hp => (h.2.el p hp).1⟩
  | shares w c => exact ⟨h.2.1.dis, h.2.2.1.dis, fun p hp => (h.2.1.el p hp).1⟩
theorem ev_supp' {n : Nat} {r : Rung} {x : Rat} (h : r.Ok n) (hx : 0 ≤ x) : ∀ j, lk r.A j = none → ev (pcs r) x j = 0 := fun j e => by
  obtain ⟨t, _, h1, _⟩ := (wf_rung h hx).ex
  rw [h1 j]
  unfold mf
  rw [e]
theorem rest_nn {n : Nat} {r : Rung} {x : Rat} (hr : r.Ok n) (hx : 0 ≤ x) : 0 ≤ x - sn n (ev (pcs r) x) := by
  cases he : r.endless with
  | true => rw [sn_ev_end (pcs_ok hr) (pcs_end hr he) hx]; grind
  | false =>
    rw [sn_ev_fin (pcs_ok hr) (pcs_fin hr he) hx]
    split <;> grind
inductive LEx (τ : Nat → Nat) : List Rung → List Rung → Prop
  | nil : LEx τ [] []
  | cons {r r' : Rung} {rs rs' : List Rung} : RunEx τ r r' → LEx τ rs rs' → LEx τ (r :: rs) (r' :: rs')
theorem Tq_ex {n : Nat} {τ : Nat → Nat} (inv : ∀ h, τ (τ h) = h) : ∀ {rs rs' : List Rung}, LEx τ rs rs' → ∀ (x : Rat) (h : Nat), (∀ r ∈ rs, r.Ok n) → (∀ r ∈ rs', r.Ok n) → 0 ≤ x → Tq n rs' x h = Tq n rs x (τ h)
  | _, _, .nil, x, h, _, _, _ => rfl
  | _, _, .cons (r := r) (r' := r') (rs := rs) (rs' := rs') e es, x, h, k, k', hx => by
    have hr := k r (by simp)
    have hr' := k' r' (by simp)
    obtain ⟨dA, dC, _⟩ := ok_dis hr
    obtain ⟨dA', _, _⟩ := ok_dis hr'
    have hev : ∀ j, ev (pcs r') x j = ev (pcs r) x (τ j) := (wf_rung hr' hx).uniq (wf_ex inv dA dC e (wf_rung hr hx))
    have hsn : sn n (ev (pcs r') x) = sn n (ev (pcs r) x) := by
      rw [sn_sm dA' (ok_dis hr').2.2 (ev_supp' hr' hx), sn_sm dA (ok_dis hr).2.2 (ev_supp' hr hx), sm_congr (g := fun j => ev (pcs r) x (τ j)) fun p _ => hev p.1, sm_perm e.A, sm_mapT inv]
    show ev (pcs r') x h + Tq n rs' (x - sn n (ev (pcs r') x)) h = ev (pcs r) x (τ h) + Tq n rs (x - sn n (ev (pcs r) x)) (τ h)
    rw [hev, hsn, Tq_ex inv es _ h (fun q hq => k q (List.mem_cons_of_mem _ hq)) (fun q hq => k' q (List.mem_cons_of_mem _ hq)) (rest_nn hr hx)]
theorem Lad.T_ex {l l' : Lad} {τ : Nat → Nat} (inv : ∀ h, τ (τ h) = h) (k : l.Ok) (k' : l'.Ok) (hn : l'.n = l.n) (e : LEx τ l.rs l'.rs) {x : Rat} (hx : 0 ≤ x) (h : Nat) : l'.T x h = l.T x (τ h) := by
  unfold Lad.T
  have kk : ∀ r ∈ l'.rs, r.Ok l.n := by rw [← hn]; exact k'.ok
  rw [← Tq_ev k.ok hx, ← Tq_ev kk hx]
  exact Tq_ex inv e x h k.ok kk hx
/-! bends are told by the payments -/
theorem rows_uniq {r1 r2 : List Row} (c1 : Chn r1) (c2 : Chn r2) (h : ∀ x, 0 ≤ x → payR r1 x = payR r2 x) : ∀ (p1 p2 pre1 pre2 : List Row) (a b : Row), r1 = pre1 ++ a :: p1 → r2 = pre2 ++ b :: p2 → 0 ≤ a.1 → a.1 = b.1 → a :: p1 = b :: p2 := by
  intro p1
  have step : ∀ (p1 p2 pre1 pre2 : List Row) (a b : Row), r1 = pre1 ++ a :: p1 → r2 = pre2 ++ b :: p2 → 0 ≤ a.1 → a.1 = b.1 → a = b := by
    intro p1 p2 pre1 pre2 a b e1 e2 h0 hab
    obtain ⟨m, hm, m1, m2⟩ : ∃ m, a.1 < m ∧ (∀ c, p1.head? = some c → m ≤ c.1) ∧ (∀ c, p2.head? = some c → m ≤ c.1) := by
      cases p1 with
      | nil =>
        cases p2 with
        | nil => exact ⟨a.1 + 1, by grind, fun c hc => (by cases hc), fun c hc => (by cases hc)⟩
        | cons d p2 => exact ⟨d.1, by have := (Chn.tail (by rw [← e2]; exact c2)).1; grind, fun c hc => (by cases hc), fun c hc => by cases hc; exact Rat.le_refl⟩
      | cons d1 p1 =>
        have n1 := (Chn.tail (by rw [← e1]; exact c1)).1
        cases p2 with
        | nil => exact ⟨d1.1, n1, fun c hc => by cases hc; exact Rat.le_refl, fun c hc => (by cases hc)⟩
        | cons d2 p2 =>
          have n2 := (Chn.tail (by rw [← e2]; exact c2)).1
          by_cases hd : d1.1 ≤ d2.1
          · exact ⟨d1.1, n1, fun c hc => by cases hc; exact Rat.le_refl, fun c hc => by cases hc; exact hd⟩
          · exact ⟨d2.1, by grind, fun c hc => by cases hc; grind, fun c hc => by cases hc; exact Rat.le_refl⟩
    have f1 : ∀ x, a.1 ≤ x → x ≤ m → payR r1 x = a.2.1 + a.2.2 * (x - a.1) := fun x h1 h2 => row_line c1 e1 h1 fun c hc => by have := m1 c hc; grind
    have f2 : ∀ x, b.1 ≤ x → x ≤ m → payR r2 x = b.2.1 + b.2.2 * (x - b.1) := fun x h1 h2 => row_line c2 e2 h1 fun c hc => by have := m2 c hc; grind
    have q0 := h a.1 h0
    rw [f1 a.1 Rat.le_refl (by grind), f2 a.1 (by grind) (by grind), hab] at q0
    have hp : a.2.1 = b.2.1 := by grind
    have q1 := h m (by grind)
    rw [f1 m (by grind) Rat.le_refl, f2 m (by grind) Rat.le_refl, hp, hab] at q1
    have hr : (a.2.2 - b.2.2) * (m - b.1) = 0 := by grind
    have hr : a.2.2 = b.2.2 := by
      rcases Rat.mul_eq_zero.mp hr with z | z
      · grind
      · grind
    exact Prod.ext hab (Prod.ext hp hr)
  induction p1 with
  | nil =>
    intro p2 pre1 pre2 a b e1 e2 h0 hab
    have hst := step [] p2 pre1 pre2 a b e1 e2 h0 hab
    subst hst
    cases p2 with
    | nil => rfl
    | cons d p2 =>
      exfalso
      have nb := Chn.tail (by rw [← e2]; exact c2)
      have e3 : r2 = (pre2 ++ [a]) ++ d :: p2 := by rw [e2]; simp
      obtain ⟨m, hm, m2⟩ : ∃ m, d.1 < m ∧ (∀ c, p2.head? = some c → m ≤ c.1) := by
        cases p2 with
        | nil => exact ⟨d.1 + 1, by grind, fun c hc => (by cases hc)⟩
        | cons e p2 => exact ⟨e.1, (Chn.tail (by rw [← e3]; exact c2)).1, fun c hc => by cases hc; exact Rat.le_refl⟩
      have q1 := h m (by have := nb.1; grind)
      rw [row_line c1 e1 (by have := nb.1; grind) (fun c hc => by cases hc), row_line c2 e3 (by grind) m2, nb.2.1] at q1
      have hr : (a.2.2 - d.2.2) * (m - d.1) = 0 := by grind
      rcases Rat.mul_eq_zero.mp hr with z | z
      · exact nb.2.2 (by grind)
      · grind
  | cons d1 p1 ih =>
    intro p2 pre1 pre2 a b e1 e2 h0 hab
    have hst := step (d1 :: p1) p2 pre1 pre2 a b e1 e2 h0 hab
    subst hst
    have nb := Chn.tail (by rw [← e1]; exact c1)
    have e1' : r1 = (pre1 ++ [a]) ++ d1 :: p1 := by rw [e1]; simp
    obtain ⟨m1, hm1, mm1⟩ : ∃ m, d1.1 < m ∧ (∀ c, p1.head? = some c → m ≤ c.1) := by
      cases p1 with
      | nil => exact ⟨d1.1 + 1, by grind, fun c hc => (by cases hc)⟩
      | cons e p1 => exact ⟨e.1, (Chn.tail (by rw [← e1']; exact c1)).1, fun c hc => by cases hc; exact Rat.le_refl⟩
    cases p2 with
    | nil =>
      exfalso
      have q1 := h m1 (by have := nb.1; grind)
      rw [row_line c2 e2 (by have := nb.1; grind) (fun c hc => by cases hc), row_line c1 e1' (by grind) mm1, nb.2.1] at q1
      have hr : (a.2.2 - d1.2.2) * (m1 - d1.1) = 0 := by grind
      rcases Rat.mul_eq_zero.mp hr with z | z
      · exact nb.2.2 (by grind)
      · grind
    | cons d2 p2 =>
      have nb2 := Chn.tail (by rw [← e2]; exact c2)
      have e2' : r2 = (pre2 ++ [a]) ++ d2 :: p2 := by rw [e2]; simp
      obtain ⟨m2, hm2, mm2⟩ : ∃ m, d2.1 < m ∧ (∀ c, p2.head? = some c → m ≤ c.1) := by
        cases p2 with
        | nil => exact ⟨d2.1 + 1, by grind, fun c hc => (by cases hc)⟩
        | cons e p2 => exact ⟨e.1, (Chn.tail (by rw [← e2']; exact c2)).1, fun c hc => by cases hc; exact Rat.le_refl⟩
      have hdd : d1.1 = d2.1 := by
        refine Classical.byContradiction fun hne => ?_
        by_cases hlt : d1.1 < d2.1
        · obtain ⟨y, y1, y2, y3⟩ : ∃ y, d1.1 < y ∧ y ≤ m1 ∧ y ≤ d2.1 := by
            by_cases z : m1 ≤ d2.1
            · exact ⟨m1, hm1, Rat.le_refl, z⟩
            · exact ⟨d2.1, hlt, by grind, Rat.le_refl⟩
          have q1 := h y (by have := nb.1; grind)
          rw [row_line c1 e1' (by grind) (fun c hc => by have := mm1 c hc; grind), row_line c2 e2 (by have := nb.1; grind) (fun c hc => by cases hc; exact y3), nb.2.1] at q1
          have hr : (a.2.2 - d1.2.2) * (y - d1.1) = 0 := by grind
          rcases Rat.mul_eq_zero.mp hr with z | z
          · exact nb.2.2 (by grind)
          · grind
        · obtain ⟨y, y1, y2, y3⟩ : ∃ y, d2.1 < y ∧ y ≤ m2 ∧ y ≤ d1.1 := by
            by_cases z : m2 ≤ d1.1
            · exact ⟨m2, hm2, Rat.le_refl, z⟩
            · exact ⟨d1.1, by grind, by grind, Rat.le_refl⟩
          have q1 := h y (by have := nb2.1; grind)
          rw [row_line c2 e2' (by grind) (fun c hc => by have := mm2 c hc; grind), row_line c1 e1 (by have := nb2.1; grind) (fun c hc => by cases hc; exact y3), nb2.2.1] at q1
          have hr : (a.2.2 - d2.2.2) * (y - d2.1) = 0 := by grind
          rcases Rat.mul_eq_zero.mp hr with z | z
          · exact nb2.2.2 (by grind)
          · grind
      rw [ih p2 (pre1 ++ [a]) (pre2 ++ [a]) d1 d2 e1' e2' (by have := nb.1; grind) hdd]
theorem RowsOk.uniq {r1 r2 : List Row} (k1 : RowsOk r1) (k2 : RowsOk r2) (h : ∀ x, 0 ≤ x → payR r1 x = payR r2 x) : r1 = r2 := by
  obtain ⟨q1, m1, f1⟩ := k1.fst
  obtain ⟨q2, m2, f2⟩ := k2.fst
  have := rows_uniq k1.ch k2.ch h m1 m2 [] [] (0, 0, q1) (0, 0, q2) f1 f2 Rat.le_refl rfl
  rw [f1, f2, this]
/-- one line -/
theorem rowsOne (q : Rat) : RowsOk [(0, 0, q)] := ⟨trivial, q, [], rfl⟩
theorem payOne {q x : Rat} (hx : 0 ≤ x) : payR [(0, 0, q)] x = q * x := by
  rw [row_line (rowsOne q).ch (pre := []) (post := []) rfl hx fun c hc => by cases hc]
  simp only
  grind
end Mx

namespace Sx
open PySem PySem.Spec PyProof.Rows L2 Mx
/-! evaluation of what Sx14 brings -/
@[simp] theorem sSet2_s {ρ : Sl} {W : Tw} {i : Nat} {k l e : SE} : sSet2 i k l e ρ W = (match ρ[i]? with
  | some (some (.own xs)) => rOut (e ρ W) fun d W1 => match d with
    | .tuple [a, b] => rOut (k ρ W1) fun kd W2 => match setD xs kd a with
      | some ys => rOut (l (ρ.set i (some (.own ys))) W2) fun ld W3 => nxO i (setD ys ld b) (ρ.set i (some (.own ys))) W3
      | none => .bad
    | _ => .bad
  | _ => .bad) := rfl
def pI (p : Nat × Nat) : Int × Int := ((p.1 : Int), (p.2 : Int))
theorem pr_pI (p : Nat × Nat) : pr p = pairD (pI p) := rfl
theorem intsOf_pr (p : Nat × Nat) (ds : List Dt) : intsOf (pr p :: ds) = none := rfl
/-- sorted, of pairs -/
theorem sorted_pairs {qs : List (Nat × Nat)} (hl : qs.length < 64) (hb : ∀ p ∈ qs, p.1 < 1000 ∧ p.2 < 1000) (d : Dis qs) :
    ∃ ps : List (Nat × Nat), sortD [.list (qs.map pr)] = some (ps.map pr) ∧ ps.Perm qs ∧ ps.Pairwise (fun a b => a.1 < b.1) := by
  have e : qs.map pr = (qs.map pI).map pairD := by rw [List.map_map]; rfl
  obtain ⟨ps, p1, p2⟩ := perm_map pI (sortO_perm (le := leP) (qs.map pI))
  refine ⟨ps, ?_, p1, ?_⟩
  · cases qs with
    | nil =>
      have : ps = [] := List.Perm.eq_nil p1
      subst this
      rfl
    | cons q qs =>
      show (match intsOf ((q :: qs).map pr) with
        | some ns => some ((sortO leI ns).map PyData.int)
        | none => match pairsOfD ((q :: qs).map pr) with
          | some ps => if ps.length < 64 ∧ ps.all bdP = true then some ((sortO leP ps).map pairD) else none
          | none => none) = _
      rw [List.map_cons, intsOf_pr, ← List.map_cons, e, pairsOfD_map]
      simp only
      have hall : ((q :: qs).map pI).all bdP = true := by
        rw [List.all_eq_true]
        intro x hx
        obtain ⟨y, hy, rfl⟩ := List.mem_map.mp hx
        have := hb y hy
        unfold bdP pI
        simp
        omega
      rw [if_pos ⟨by rw [List.length_map]; exact hl, hall⟩, p2, List.map_map] <;> rfl
  · have hs := sortO_pw leP_tot leP_tr (qs.map pI)
    rw [p2] at hs
    have hs := List.pairwise_map.mp hs
    have hd : Dis ps := dis_perm p1.symm d
    refine (hs.and hd).imp fun {a b} z => ?_
    have z1 := z.1
    have z2 := z.2
    unfold leP pI at z1
    simp at z1
    omega
theorem inD_two {h a b : Nat} : inD (iD h) (.tuple [iD a, iD b]) = some (.bool (decide (h = a ∨ h = b))) := by
  show (if flatD (iD h) && [iD a, iD b].all flatD then some (PyData.bool (inB (iD h) [iD a, iD b])) else none) = _
  have : inB (iD h) [iD a, iD b] = decide (h = a ∨ h = b) := by
    show (((a : Int) == (h : Int)) || (((b : Int) == (h : Int)) || false)) = _
    rw [Bool.eq_iff_iff]
    simp
    omega
  rw [this]
  rfl
theorem exchanged_ok {n m a b : Nat} {ps : List (Nat × Nat)} (hp : POk n m ps) (hn : n ≤ 5) (hm : m ≤ 999) (ha : a < n) (hb : b < n) :
    ∃ ps' : List (Nat × Nat), F__law_exchanged [prs ps, iD a, iD b] = .ok (prs ps') ∧ ps'.Perm (mapT (exT a b) ps) ∧ POk n m ps' := by
  have hlen := pok_len hp
  obtain ⟨ρ', h1, y4, y5, y6, rfl⟩ := fL_pre (W := none) (g := gTu 2 (gsCons (gN 4) (gsCons (gN 5) gsNil))) (body := lB__law_exchanged_1) pr (fun pre ρ => ∃ y4 y5 y6, ρ = [some (.d (prs ps)), some (.d (iD a)), some (.d (iD b)), some (.own ((mapT (exT a b) pre).map pr)), y4, y5, y6]) ps
    [some (.d (prs ps)), some (.d (iD a)), some (.d (iD b)), some (.own []), none, none, none] ⟨none, none, none, rfl⟩ (by
      rintro pre p post ρ e ⟨y4, y5, y6, rfl⟩
      have hpl : pre.length < ps.length := by rw [e, List.length_append, List.length_cons]; omega
      have hin := inD_two (h := p.1) (a := a) (b := b)
      have hl2 : ((mapT (exT a b) pre).map pr).length < 100000 := by unfold mapT; rw [List.length_map, List.length_map]; omega
      have em : mapT (exT a b) (pre ++ [p]) = mapT (exT a b) pre ++ [(exT a b p.1, p.2)] := by unfold mapT; rw [List.map_append]; rfl
      refine ⟨_, [some (.d (prs ps)), some (.d (iD a)), some (.d (iD b)), some (.own ((mapT (exT a b) (pre ++ [p])).map pr)), some (.d (iD p.1)), some (.d (iD p.2)), some (.d (iD (exT a b p.1)))], by simp; rfl, ?_, _, _, _, rfl⟩
      rw [em, List.map_append]
      generalize (mapT (exT a b) pre).map pr = D at *
      by_cases hc : p.1 = a ∨ p.1 = b
      · rw [decide_eq_true hc] at hin
        have hx : (a : Int) + (b : Int) - (p.1 : Int) = ((exT a b p.1 : Nat) : Int) := by
          unfold exT
          rcases hc with z | z
          · rw [if_pos z]; omega
          · by_cases w : p.1 = a
            · rw [if_pos w]; omega
            · rw [if_neg w, if_pos z]; omega
        simp [lB__law_exchanged_1, hin, hx, hl2, pr]
      · rw [decide_eq_false hc] at hin
        have hx : exT a b p.1 = p.1 := by
          unfold exT
          rw [if_neg fun z => hc (.inl z), if_neg fun z => hc (.inr z)]
        rw [hx]
        simp [lB__law_exchanged_1, hin, hl2, pr])
  obtain ⟨ps', s1, s2, s3⟩ := sorted_pairs (qs := mapT (exT a b) ps) (by unfold mapT; rw [List.length_map]; omega) (fun p hp' => by
    obtain ⟨q, hq, rfl⟩ := List.mem_map.mp hp'
    have h2 := hp.el q hq
    have := exT_lt ha hb h2.1
    exact ⟨by show exT a b q.1 < 1000; omega, by show q.2 < 1000; omega⟩) (dis_mapT (exT_inv a b) hp.dis)
  refine ⟨ps', ?_, s2, ⟨fun p hp' => ?_, s3⟩⟩
  · unfold F__law_exchanged
    simp only [B__law_exchanged]
    generalize (mapT (exT a b) ps).map pr = D at *
    have : prs ps' = .tuple (ps'.map pr) := rfl
    rw [this]
    generalize ps'.map pr = D2 at *
    simp [h1, s1]
  · obtain ⟨q, hq, rfl⟩ := List.mem_map.mp (s2.mem_iff.mp hp')
    have h2 := hp.el q hq
    exact ⟨exT_lt ha hb h2.1, h2.2⟩
end Sx

namespace Mx
/-! what each rung pays, piece by piece -/
def partOf (o : Option Rat) (y : Rat) : Rat := match o with
  | none => y
  | some l => if l < y then l else y
def addRow (rows : List (Nat → Rat)) (k : Nat) (f : Nat → Rat) : List (Nat → Rat) := match rows[k]? with
  | some g => rows.set k fun h => g h + f h
  | none => rows
def prGo : List (Nat × Pc) → Rat → List (Nat → Rat) → List (Nat → Rat)
  | [], _, rows => rows
  | (k, (o, r)) :: ps, y, rows => prGo ps (y - partOf o y) (addRow rows k fun h => partOf o y * r h)
def lfGo : List Pc → Rat → Rat
  | [], y => y
  | (o, _) :: ps, y => lfGo ps (y - partOf o y)
theorem part_in {n : Nat} {o : Option Rat} {r : Nat → Rat} {y : Rat} (k : PcOk n (o, r)) (hy : 0 ≤ y) : 0 ≤ partOf o y ∧ partOf o y ≤ y := by
  cases o with
  | none => exact ⟨hy, Rat.le_refl⟩
  | some l =>
    have := k.pos l rfl
    unfold partOf
    simp only
    split <;> constructor <;> grind
theorem ev_part {n : Nat} {o : Option Rat} {r : Nat → Rat} {ps : List Pc} {y : Rat} {h : Nat} (k : ∀ pc ∈ ps, PcOk n pc) (hy : 0 ≤ y) : ev ((o, r) :: ps) y h = partOf o y * r h + ev ps (y - partOf o y) h := by
  cases o with
  | none =>
    show r h * y = y * r h + ev ps (y - y) h
    rw [show y - y = (0 : Rat) by grind, ev_zero k]; grind
  | some l =>
    unfold partOf
    simp only
    by_cases hl : l < y
    · rw [if_pos hl, ev_gt (by grind)]; grind
    · rw [if_neg hl, ev_le (by grind), show y - y = (0 : Rat) by grind, ev_zero k]; grind
theorem lf_sn {n : Nat} : ∀ {ps : List Pc} {y : Rat}, (∀ pc ∈ ps, PcOk n pc) → 0 ≤ y → lfGo ps y = y - sn n (ev ps y) ∧ 0 ≤ lfGo ps y
  | [], y, _, hy => by
    have e : ev [] y = fun _ => (0 : Rat) := by funext h; rfl
    rw [e, sn_nul]
    exact ⟨by show y = y - 0; grind, hy⟩
  | (o, r) :: ps, y, k, hy => by
    have k' : ∀ pc ∈ ps, PcOk n pc := fun pc hp => k pc (List.mem_cons_of_mem _ hp)
    have k0 := k (o, r) (by simp)
    obtain ⟨p0, p1⟩ := part_in k0 hy
    obtain ⟨i1, i2⟩ := lf_sn (n := n) (ps := ps) (y := y - partOf o y) k' (by grind)
    refine ⟨?_, i2⟩
    show lfGo ps (y - partOf o y) = _
    rw [i1, sn_congr (g := fun h => partOf o y * r h + ev ps (y - partOf o y) h) fun h _ => ev_part k' hy, sn_add]
    have e : sn n (fun h => partOf o y * r h) = partOf o y := by
      rw [sn_congr (g := fun h => r h * partOf o y) fun h _ => by grind, sn_mul, k0.one]; grind
    rw [e]; grind
theorem set_self {α : Type} {l : List α} {i : Nat} {a : α} (h : l[i]? = some a) : l.set i a = l := by
  refine List.ext_getElem? fun j => ?_
  by_cases hj : i = j
  · subst hj
    rw [List.getElem?_set_self (List.getElem?_eq_some_iff.mp h).1, h]
  · rw [List.getElem?_set_ne hj]
theorem prA {n i : Nat} : ∀ (ps : List Pc) (rest : List (Nat × Pc)) (y : Rat) (rows : List (Nat → Rat)) (g : Nat → Rat), (∀ pc ∈ ps, PcOk n pc) → 0 ≤ y → rows[i]? = some g →
    prGo (ps.map (fun pc => (i, pc)) ++ rest) y rows = prGo rest (lfGo ps y) (rows.set i fun h => g h + ev ps y h)
  | [], rest, y, rows, g, _, _, hg => by
    have e : (fun h => g h + ev [] y h) = g := by funext h; show g h + 0 = g h; grind
    rw [e, set_self hg]; rfl
  | (o, r) :: ps, rest, y, rows, g, k, hy, hg => by
    have k' : ∀ pc ∈ ps, PcOk n pc := fun pc hp => k pc (List.mem_cons_of_mem _ hp)
    obtain ⟨p0, p1⟩ := part_in (k (o, r) (by simp)) hy
    have hi := (List.getElem?_eq_some_iff.mp hg).1
    show prGo (ps.map (fun pc => (i, pc)) ++ rest) (y - partOf o y) (addRow rows i fun h => partOf o y * r h) = prGo rest (lfGo ps (y - partOf o y)) _
    have ea : addRow rows i (fun h => partOf o y * r h) = rows.set i fun h => g h + partOf o y * r h := by unfold addRow; rw [hg]
    rw [ea, prA ps rest (y - partOf o y) _ (fun h => g h + partOf o y * r h) k' (by grind) (List.getElem?_set_self hi), List.set_set]
    congr 2
    funext h
    rw [ev_part k' hy]; grind
end Mx
namespace Sx
open PySem PySem.Spec PyProof.Rows L2 Mx
section
variable {ρ : Sl} {W : Tw} {i : Nat} {e k l : SE}
@[simp] theorem sOw2_s {it : SA} {g : SG} {f : SA} {vs} : sOw2 i it g f vs ρ W = rOut (it ρ W) fun ds W1 => if ds.length ≤ 100000 ∧ wipeOk ρ vs = true ∧ i < ρ.length then
    rOut (nox (cL2 g f (wipeS ρ vs) ds W1)) fun rows W2 => .nx (ρ.set i (some (.ow2 rows))) W2 else .bad := rfl
@[simp] theorem eIx2_s : eIx2 i k l ρ W = (match ρ[i]? with
  | some (some (.ow2 rows)) => (k ρ W).bind fun p => (ofO (rowAt rows p.1) p.2).bind fun r => (l ρ r.2).bind fun q => ofO (ixD (.list r.1) q.1) q.2
  | _ => .bad) := rfl
@[simp] theorem sSet3_s : sSet3 i k l e ρ W = (match ρ[i]? with
  | some (some (.ow2 rows)) => rOut (e ρ W) fun d W1 => rOut (k ρ W1) fun kd W2 => rOut (ofO (rowAt rows kd) W2) fun r W3 => rOut (l ρ W3) fun ld W4 => nx2 i (setD r ld d) rows kd ρ W4
  | _ => .bad) := rfl
@[simp] theorem nx2_some {r : List Dt} {rows : List (List Dt)} {kd : Dt} : nx2 i (some r) rows kd ρ W = .nx (ρ.set i (some (.ow2 (putRow rows kd r)))) W := rfl
@[simp] theorem frz2_s : frz2 i ρ = (match ρ[i]? with
  | some (some (.ow2 rows)) => ρ.set i (some (.d (.list (rows.map PyData.list))))
  | _ => ρ) := rfl
end
theorem paysR_zero {n : Nat} : ∀ {rs : List Rung}, (∀ r ∈ rs, r.Ok n) → paysR n rs 0 = rs.map fun _ => fun _ => (0 : Rat)
  | [], _ => rfl
  | r :: rs, k => by
    have hr := k r (by simp)
    have e : ev (pcs r) 0 = fun _ => (0 : Rat) := by funext h; exact ev_zero (pcs_ok hr)
    show ev (pcs r) 0 :: paysR n rs (0 - sn n (ev (pcs r) 0)) = _
    rw [e, sn_nul, show (0 : Rat) - 0 = 0 by grind, paysR_zero fun q hq => k q (List.mem_cons_of_mem _ hq)]
    rfl
theorem prB {n : Nat} : ∀ (rs : List Rung) (i : Nat) (done : List (Nat → Rat)) (y : Rat), done.length = i → (∀ r ∈ rs, r.Ok n) → 0 ≤ y → prGo (npcs i rs) y (done ++ rs.map fun _ => fun _ => 0) = done ++ paysR n rs y
  | [], i, done, y, _, _, _ => by simp [npcs, prGo, paysR]
  | r :: rs, i, done, y, hi, k, hy => by
    have hr := k r (by simp)
    have hrs : ∀ q ∈ rs, q.Ok n := fun q hq => k q (List.mem_cons_of_mem _ hq)
    show prGo ((pcs r).map (fun pc => (i, pc)) ++ (if r.endless = true then [] else npcs (i + 1) rs)) y (done ++ (fun _ => 0) :: rs.map fun _ => fun _ => 0) = done ++ ev (pcs r) y :: paysR n rs (y - sn n (ev (pcs r) y))
    rw [prA (n := n) (pcs r) _ y _ (fun _ => 0) (pcs_ok hr) hy (by rw [List.getElem?_append_right (by omega)]; simp [hi])]
    have es : (done ++ (fun _ => (0 : Rat)) :: rs.map fun _ => fun _ => 0).set i (fun h => 0 + ev (pcs r) y h) = done ++ ev (pcs r) y :: rs.map fun _ => fun _ => 0 := by
      have hii : i - done.length = 0 := by omega
      have : (fun h => 0 + ev (pcs r) y h) = ev (pcs r) y := by funext h; grind
      rw [this, List.set_append_right _ _ (by omega), hii]
      rfl
    rw [es]
    obtain ⟨l1, l2⟩ := lf_sn (n := n) (pcs_ok hr) hy
    by_cases he : r.endless = true
    · rw [if_pos he]
      have hz : y - sn n (ev (pcs r) y) = 0 := by rw [sn_ev_end (pcs_ok hr) (pcs_end hr he) hy]; grind
      rw [hz, paysR_zero hrs]
      rfl
    · rw [if_neg he, show done ++ ev (pcs r) y :: rs.map (fun _ => fun _ => (0 : Rat)) = (done ++ [ev (pcs r) y]) ++ rs.map (fun _ => fun _ => (0 : Rat)) by simp, prB rs (i + 1) (done ++ [ev (pcs r) y]) _ (by simp [hi]) hrs l2, l1]
      simp
theorem cL2_map {α : Type} {g : SG} {e : SA} {ρ0 : Sl} {W : Tw} (enc : α → Dt) (v : α → List Dt) : ∀ xs : List α, (∀ x ∈ xs, ∃ ρ1, g (enc x) ρ0 = some ρ1 ∧ e ρ1 W = .ok (v x, W)) → cL2 g e ρ0 (xs.map enc) W = .ok (xs.map v, W)
  | [], _ => rfl
  | x :: xs, h => by
    obtain ⟨ρ1, h1, h2⟩ := h x (by simp)
    have ih := cL2_map enc v xs fun y hy => h y (List.mem_cons_of_mem _ hy)
    rw [List.map_cons]
    unfold cL2
    rw [h1]
    simp only [h2, nox_ok, Res.bind_ok, ih]
    rfl
theorem rowAt_map {n k : Nat} {rows : List (Nat → Rat)} {g : Nat → Rat} (h : rows[k]? = some g) : rowAt (rows.map (rtL n)) (.int (k : Int)) = some (rtL n g) := by
  show atI (rows.map (rtL n)) (k : Int) = _
  rw [atI_nat (by rw [List.length_map]; exact (List.getElem?_eq_some_iff.mp h).1), List.getElem?_map, h]; rfl
theorem putRow_map {n k : Nat} {rows : List (Nat → Rat)} {g : Nat → Rat} (h : k < rows.length) : putRow (rows.map (rtL n)) (.int (k : Int)) (rtL n g) = (rows.set k g).map (rtL n) := by
  unfold putRow
  simp only
  rw [List.length_map, ixN_nat h]
  simp only
  rw [List.map_set]
theorem fL_c3 {i j k : Nat} {body : SS} {d1 d2 d3 : Dt} {ds : List Dt} {ρ : Sl} {W : Tw} (hi : i < ρ.length) (hj : j < ρ.length) (hk : k < ρ.length) : fL (gTu 3 (gsCons (gN i) (gsCons (gN j) (gsCons (gN k) gsNil)))) body (.tuple [d1, d2, d3] :: ds) ρ W =
    match body (((ρ.set i (some (.d d1))).set j (some (.d d2))).set k (some (.d d3))) W with | .nx ρ2 W2 => fL (gTu 3 (gsCons (gN i) (gsCons (gN j) (gsCons (gN k) gsNil)))) body ds ρ2 W2 | r => r := by
  simp [hi, hj, hk] <;> rfl
theorem pr_in {n k B : Nat} {part : Rat} {r : Nat → Rat} {x0 x1 x3 x5 x6 x10 x11 : Option SV} (hB : B ≤ 3900) (hp : ∀ h, Bd 13 (r h)) (hpb : Bd 55 part) : ∀ (m j : Nat) (rows : List (Nat → Rat)) (g : Nat → Rat) (y8 y9 : Option SV), j + m = n → rows[k]? = some g → (∀ h, j ≤ h → Bd B (g h)) →
    ∃ z8 z9, fL (gTu 2 (gsCons (gN 8) (gsCons (gN 9) gsNil))) lB_pay_rungs_3 (enumD j ((List.range' j m).map fun h => fr (r h))) [x0, x1, some (.ow2 (rows.map (rtL n))), x3, some (.d (iD k)), x5, x6, some (.d (fr part)), y8, y9, x10, x11] none =
      .nx [x0, x1, some (.ow2 ((rows.set k fun h => if j ≤ h then g h + part * r h else g h).map (rtL n))), x3, some (.d (iD k)), x5, x6, some (.d (fr part)), z8, z9, x10, x11] none
  | 0, j, rows, g, y8, y9, hj, hg, _ => by
    refine ⟨y8, y9, ?_⟩
    have : (rows.set k fun h => if j ≤ h then g h + part * r h else g h).map (rtL n) = rows.map (rtL n) := by
      rw [List.map_set]
      have e : rtL n (fun h => if j ≤ h then g h + part * r h else g h) = rtL n g := by
        unfold rtL
        exact List.map_congr_left fun h hh => by have := List.mem_range.mp hh; simp only; rw [if_neg (by omega)]
      rw [e]
      exact set_self (by rw [List.getElem?_map, hg]; rfl)
    rw [this]
    rfl
  | m + 1, j, rows, g, y8, y9, hj, hg, hb => by
    have hk := (List.getElem?_eq_some_iff.mp hg).1
    have p1 := product_ok (a := part) (b := r j) (hpb.mono (by decide)) ((hp j).mono (by decide))
    have p2 := plus_ok (a := g j) (b := part * r j) ((hb j (Nat.le_refl _)).mono (by omega)) ((hpb.mul (hp j)).mono (by decide))
    have ra := rowAt_map (n := n) hg
    have ix := ix_rtL (n := n) (h := j) (r := g) (by omega)
    have st := set_rtL (n := n) (h := j) (r := g) (v := g j + part * r j) (by omega)
    obtain ⟨g', hg'⟩ : ∃ g' : Nat → Rat, g' = fun h => if h = j then g j + part * r j else g h := ⟨_, rfl⟩
    rw [← hg'] at st
    have pw := putRow_map (n := n) (g := g') hk
    obtain ⟨z8, z9, ih⟩ := pr_in (n := n) (k := k) (B := B) (part := part) (r := r) (x0 := x0) (x1 := x1) (x3 := x3) (x5 := x5) (x6 := x6) (x10 := x10) (x11 := x11) hB hp hpb m (j + 1) (rows.set k g') g' (some (.d (iD j))) (some (.d (fr (r j)))) (by omega) (List.getElem?_set_self hk) (fun h hh => by rw [hg']; simp only; rw [if_neg (by omega)]; exact hb h (by omega))
    refine ⟨z8, z9, ?_⟩
    have eE : enumD j ((List.range' j (m + 1)).map fun h => fr (r h)) = .tuple [.int (j : Int), fr (r j)] :: enumD (j + 1) ((List.range' (j + 1) m).map fun h => fr (r h)) := by rw [List.range'_succ]; rfl
    rw [eE, fL_c2 (by simp) (by simp)]
    simp only [List.set_cons_succ, List.set_cons_zero]
    have eb : lB_pay_rungs_3 [x0, x1, some (.ow2 (rows.map (rtL n))), x3, some (.d (iD k)), x5, x6, some (.d (fr part)), some (.d (.int (j : Int))), some (.d (fr (r j))), x10, x11] none = .nx [x0, x1, some (.ow2 ((rows.set k g').map (rtL n))), x3, some (.d (iD k)), x5, x6, some (.d (fr part)), some (.d (iD j)), some (.d (fr (r j))), x10, x11] none := by
      rw [← pw]
      generalize rows.map (rtL n) = D at *
      simp [lB_pay_rungs_3, ra, ix, p1, p2, st]
    rw [eb]
    simp only
    have eg : (fun h => if j + 1 ≤ h then g' h + part * r h else g' h) = fun h => if j ≤ h then g h + part * r h else g h := by
      funext h
      rw [hg']
      simp only
      by_cases h1 : h = j
      · subst h1
        rw [if_neg (by omega), if_pos rfl, if_pos (Nat.le_refl _)]
      · by_cases h2 : j + 1 ≤ h
        · rw [if_pos h2, if_neg h1, if_pos (by omega)]
        · rw [if_neg h2, if_neg h1, if_neg (by omega)]
    rw [ih, List.set_set, eg]
theorem pr_out {n : Nat} {x : Rat} {x0 x1 x10 x11 : Option SV} (hx : Bd 30 x) (hn : n ≤ 5) : ∀ (ps : List (Nat × Pc)) (y s : Rat) (rows : List (Nat → Rat)) (B : Nat) (y4 y5 y6 y7 y8 y9 : Option SV), (∀ h, ∃ p, Gd h s p (ps.map (·.2))) → (∀ q ∈ ps, PcOk n q.2 ∧ q.1 < rows.length) → (y = x - s ∨ y = 0) → 0 ≤ y → (∀ g ∈ rows, ∀ h, Bd B (g h)) → B + 70 * ps.length ≤ 3900 →
    ∃ z3 z4 z5 z6 z7 z8 z9, fL (gTu 3 (gsCons (gN 4) (gsCons (gN 5) (gsCons (gN 6) gsNil)))) lB_pay_rungs_2 (ps.map (npD n)) [x0, x1, some (.ow2 (rows.map (rtL n))), some (.d (fr y)), y4, y5, y6, y7, y8, y9, x10, x11] none =
      .nx [x0, x1, some (.ow2 ((prGo ps y rows).map (rtL n))), z3, z4, z5, z6, z7, z8, z9, x10, x11] none
  | [], y, s, rows, B, y4, y5, y6, y7, y8, y9, _, _, _, _, _, _ => ⟨_, _, _, _, _, _, _, rfl⟩
  | (k, (o, r)) :: ps, y, s, rows, B, y4, y5, y6, y7, y8, y9, hgd, hok, hy, hy0, hrb, hB => by
    rw [List.length_cons] at hB
    obtain ⟨pk, hkl⟩ := hok (k, (o, r)) (by simp)
    obtain ⟨g, hg⟩ : ∃ g, rows[k]? = some g := ⟨_, List.getElem?_eq_getElem hkl⟩
    have hgm := List.mem_of_getElem? hg
    have hr13 : ∀ h, Bd 13 (r h) := fun h => by
      obtain ⟨p, q⟩ := hgd h
      cases o with
      | none => exact q.2.2.1
      | some l => exact q.2.2.1
    have hsb : Bd 24 s := by
      obtain ⟨p, q⟩ := hgd 0
      cases o with
      | none => exact q.1
      | some l => exact q.1
    have hyb : Bd 55 y := by
      rcases hy with z | z
      · rw [z]; exact hx.sub hsb
      · rw [z]; exact ⟨by decide, by decide⟩
    obtain ⟨part, hpart⟩ : ∃ part, part = partOf o y := ⟨_, rfl⟩
    obtain ⟨q0, q1⟩ := part_in pk hy0
    rw [← hpart] at q0 q1
    have hpb : Bd 55 part := by
      cases o with
      | none => rw [hpart]; exact hyb
      | some l =>
        obtain ⟨p, q⟩ := hgd 0
        rw [hpart]
        unfold partOf
        simp only
        split
        · exact q.2.2.2.1.mono (by decide)
        · exact hyb
    have p2 := minus_ok (a := y) (b := part) (hyb.mono (by decide)) (hpb.mono (by decide))
    have hpe : ∀ z0 z1 z2 z6 z7 z8 z9 z10 z11 : Option SV, eIf (bOf (eBin isD (eVar 5) (eC .none))) (eVar 3) (eCall 2 F_lesser (aCons (eVar 3) (aCons (eVar 5) aNil))) [z0, z1, z2, some (.d (fr y)), some (.d (iD k)), some (.d (lnD o)), z6, z7, z8, z9, z10, z11] none = .ok (fr part, none) := by
      intros
      cases o with
      | none => rw [hpart]; simp [isD_ln, partOf]
      | some l =>
        obtain ⟨p, q⟩ := hgd 0
        have pl := lesser_ok (a := y) (b := l) (hyb.mono (by decide)) (q.2.2.2.1.mono (by decide))
        have : (if l < y then l else y) = part := by rw [hpart]; rfl
        rw [this] at pl
        have pl : F_lesser [fr y, lnD (some l)] = .ok (fr part) := pl
        simp [isD_ln, pl]
    obtain ⟨w8, w9, hin⟩ := pr_in (n := n) (k := k) (B := B) (part := part) (r := r) (x0 := x0) (x1 := x1) (x3 := some (.d (fr (y - part)))) (x5 := some (.d (lnD o))) (x6 := some (.d (.tuple (rtL n r)))) (x10 := x10) (x11 := x11) (by omega) hr13 hpb n 0 rows g y8 y9 (by omega) hg (fun h _ => hrb g hgm h)
    have hset : (fun h => if 0 ≤ h then g h + part * r h else g h) = fun h => g h + part * r h := by funext h; rw [if_pos (Nat.zero_le _)]
    rw [hset] at hin
    have hadd : addRow rows k (fun h => part * r h) = rows.set k fun h => g h + part * r h := by unfold addRow; rw [hg]
    rw [← hadd] at hin
    have hen : enumD 0 (rtL n r) = enumD 0 ((List.range' 0 n).map fun h => fr (r h)) := by unfold rtL; rw [List.range_eq_range']
    rw [← hen] at hin
    have eb : lB_pay_rungs_2 [x0, x1, some (.ow2 (rows.map (rtL n))), some (.d (fr y)), some (.d (iD k)), some (.d (lnD o)), some (.d (.tuple (rtL n r))), y7, y8, y9, x10, x11] none = .nx [x0, x1, some (.ow2 ((addRow rows k fun h => part * r h).map (rtL n))), some (.d (fr (y - part))), some (.d (iD k)), some (.d (lnD o)), some (.d (.tuple (rtL n r))), some (.d (fr part)), w8, w9, x10, x11] none := by
      generalize (addRow rows k fun h => part * r h).map (rtL n) = D2 at *
      generalize rows.map (rtL n) = D at *
      generalize rtL n r = RR at *
      unfold lB_pay_rungs_2
      rw [sSeq_s, sAsg_s, hpe]
      simp [p2, hin]
    have hlen : (addRow rows k fun h => part * r h).length = rows.length := by rw [hadd, List.length_set]
    have hrb' : ∀ g' ∈ addRow rows k (fun h => part * r h), ∀ h, Bd (B + 69) (g' h) := fun g' hg' h => by
      rw [hadd] at hg'
      rcases List.mem_or_eq_of_mem_set hg' with z | z
      · exact (hrb g' z h).mono (by omega)
      · rw [z]; exact ((hrb g hgm h).add (hpb.mul (hr13 h))).mono (by omega)
    have hstep : fL (gTu 3 (gsCons (gN 4) (gsCons (gN 5) (gsCons (gN 6) gsNil)))) lB_pay_rungs_2 (((k, (o, r)) :: ps).map (npD n)) [x0, x1, some (.ow2 (rows.map (rtL n))), some (.d (fr y)), y4, y5, y6, y7, y8, y9, x10, x11] none = fL (gTu 3 (gsCons (gN 4) (gsCons (gN 5) (gsCons (gN 6) gsNil)))) lB_pay_rungs_2 (ps.map (npD n)) [x0, x1, some (.ow2 ((addRow rows k fun h => part * r h).map (rtL n))), some (.d (fr (y - part))), some (.d (iD k)), some (.d (lnD o)), some (.d (.tuple (rtL n r))), some (.d (fr part)), w8, w9, x10, x11] none := by
      have ed : npD n (k, (o, r)) = .tuple [.int (k : Int), lnD o, .tuple (rtL n r)] := rfl
      rw [List.map_cons, ed, fL_c3 (by simp) (by simp) (by simp)]
      simp only [List.set_cons_succ, List.set_cons_zero]
      rw [eb]
    cases o with
    | none =>
      have hps : ps = [] := by
        obtain ⟨p, q⟩ := hgd 0
        exact List.map_eq_nil_iff.mp q.2.2.2
      subst hps
      rw [hstep]
      refine ⟨some (.d (fr (y - part))), some (.d (iD k)), some (.d (lnD none)), some (.d (.tuple (rtL n r))), some (.d (fr part)), w8, w9, ?_⟩
      have ep : prGo [(k, ((none : Option Rat), r))] y rows = addRow rows k fun h => part * r h := by rw [hpart]; rfl
      rw [ep, List.map_nil, fL_nil]
    | some l =>
      obtain ⟨z3, z4, z5, z6, z7, z8, z9, ih⟩ := pr_out (n := n) (x := x) (x0 := x0) (x1 := x1) (x10 := x10) (x11 := x11) hx hn ps (y - part) (s + l) (addRow rows k fun h => part * r h) (B + 69) (some (.d (iD k))) (some (.d (lnD (some l)))) (some (.d (.tuple (rtL n r)))) (some (.d (fr part))) w8 w9 (fun h => by
          obtain ⟨p, q⟩ := hgd h
          exact ⟨_, q.2.2.2.2⟩) (fun q hq => by rw [hlen]; exact hok q (List.mem_cons_of_mem _ hq)) (by
          have hl := pk.pos l rfl
          have e : part = if l < y then l else y := hpart
          by_cases hc : l < y
          · rw [if_pos hc] at e
            rcases hy with z | z
            · left; rw [z, e]; grind
            · exfalso; grind
          · rw [if_neg hc] at e
            right; rw [e]; grind) (by grind) hrb' (by omega)
      refine ⟨z3, z4, z5, z6, z7, z8, z9, ?_⟩
      rw [hstep, ih, hpart]
      rfl
theorem npcs_num {n : Nat} : ∀ (i : Nat) (rs : List Rung), ∀ q ∈ npcs i rs, q.1 < i + rs.length
  | _, [], q, hq => by cases hq
  | i, r :: rs, q, hq => by
    unfold npcs at hq
    rw [List.length_cons]
    rcases List.mem_append.mp hq with z | z
    · obtain ⟨pc, _, rfl⟩ := List.mem_map.mp z
      show i < _; omega
    · split at z
      · cases z
      · have := npcs_num (n := n) (i + 1) rs q z; omega
def paysD (n : Nat) (fs : List (Nat → Rat)) : List Dt := fs.map fun f => .tuple (rtL n f)
theorem pay_rungs_ok {l : Lad} {x : Rat} (hk : l.Ok) (hx : Amt x) : F_pay_rungs [ld l, fr x] = .ok (.tuple (paysD l.n (paysR l.n l.rs x))) := by
  have n5 := hk.n5
  have r4 := hk.r4
  have hc2 : cL2 (gN 10) cE_pay_rungs_1 [some (.d (ld l)), some (.d (fr x)), none, none, none, none, none, none, none, none, none, none] (l.rs.map rd) none = .ok (l.rs.map (fun _ => rtL l.n fun _ => 0), none) := by
    refine cL2_map rd _ l.rs fun r hr => ⟨_, by simp; rfl, ?_⟩
    have := mulL_zero (n := l.n) n5
    simp [cE_pay_rungs_1, this]
  have hlen := npcs_len (n := l.n) n5 0 l.rs hk.ok
  obtain ⟨z3, z4, z5, z6, z7, z8, z9, hlp⟩ := pr_out (n := l.n) (x := x) (x0 := some (.d (ld l))) (x1 := some (.d (fr x))) (x10 := none) (x11 := none) hx.bd n5 (npcs 0 l.rs) x 0 (l.rs.map fun _ => fun _ => 0) 1 none none none none none none (fun h => ⟨0, by rw [npcs_snd]; exact hk.gd h⟩) (fun q hq => ⟨lpcs_ok hk.ok _ (by rw [← npcs_snd 0 l.rs]; exact List.mem_map_of_mem hq), by have := npcs_num (n := l.n) 0 l.rs q hq; rw [List.length_map]; omega⟩) (.inl (by grind)) hx.nn (fun g hg h => by
    obtain ⟨_, _, rfl⟩ := List.mem_map.mp hg
    exact show Bd 1 (0 : Rat) from ⟨by decide, by decide⟩) (by omega)
  have hb := prB (n := l.n) l.rs 0 [] x rfl hk.ok hx.nn
  rw [List.nil_append, List.nil_append] at hb
  rw [hb] at hlp
  rw [List.map_map] at hlp
  have hlp : fL (gTu 3 (gsCons (gN 4) (gsCons (gN 5) (gsCons (gN 6) gsNil)))) lB_pay_rungs_2 ((npcs 0 l.rs).map (npD l.n)) [some (.d (ld l)), some (.d (fr x)), some (.ow2 (l.rs.map (fun _ => rtL l.n fun _ => 0))), some (.d (fr x)), none, none, none, none, none, none, none, none] none = _ := hlp
  have hc4 : ∀ y0 y1 y2 y3 y4 y5 y6 y7 y8 y9 y10 : Option SV, cL (gN 11) bYes cE_pay_rungs_4 [y0, y1, y2, y3, y4, y5, y6, y7, y8, y9, y10, none] (((paysR l.n l.rs x).map (rtL l.n)).map PyData.list) none = .ok (paysD l.n (paysR l.n l.rs x), none) := by
    intros
    rw [List.map_map]
    unfold paysD
    exact cL_map (fun f : Nat → Rat => PyData.list (rtL l.n f)) _ _ fun f hf => ⟨_, by simp; rfl, by simp [cE_pay_rungs_4]⟩
  have hpl : (paysR l.n l.rs x).length = l.rs.length := by
    have : ∀ (rs : List Rung) (y : Rat), (paysR l.n rs y).length = rs.length := by
      intro rs
      induction rs with
      | nil => intro y; rfl
      | cons r rs ih => intro y; show (paysR l.n rs _).length + 1 = _; rw [ih]; rfl
    exact this l.rs x
  have hl1 : (((paysR l.n l.rs x).map (rtL l.n)).map PyData.list).length ≤ 100000 := by rw [List.length_map, List.length_map, hpl]; omega
  have hl2 : (l.rs.map rd).length ≤ 100000 := by rw [List.length_map]; omega
  unfold F_pay_rungs
  simp only [B_pay_rungs]
  generalize paysD l.n (paysR l.n l.rs x) = P at *
  generalize (paysR l.n l.rs x).map (rtL l.n) = Q at *
  generalize (l.rs.map (fun _ => rtL l.n fun _ => 0)) = Z at *
  have hpo := pieces_of_ok hk
  generalize (npcs 0 l.rs).map (npD l.n) = N at *
  have i1 := ix_ld1 (l := l)
  generalize l.rs.map rd = RD at *
  have hq2 : Q.map PyData.list = Q.map PyData.list := rfl
  have hl1' : Q.length ≤ 100000 := by rw [List.length_map] at hl1; exact hl1
  simp [check_ladder_ok hk, check_amount_ok hx, i1, wipeOk, hl2, hc2, hpo, hlp, hl1', hc4]
end Sx

namespace Mx
theorem sm_keys {f : Nat → Rat} : ∀ A : List (Nat × Nat), sm A f = ((A.map (·.1)).map f).sum
  | [] => rfl
  | p :: A => by rw [sm_cons, sm_keys A]; simp
theorem sum_perm {xs ys : List Rat} (p : xs.Perm ys) : xs.sum = ys.sum := by
  induction p with
  | nil => rfl
  | cons x _ ih => rw [List.sum_cons, List.sum_cons, ih]
  | swap x y l => rw [List.sum_cons, List.sum_cons, List.sum_cons, List.sum_cons]; grind
  | trans _ _ h1 h2 => rw [h1, h2]
/-- what a rung that is not endless can pay -/
theorem tot_C {n : Nat} {r : Rung} (h : r.Ok n) (he : r.endless = false) : tot (pcs r) = (wsum r.C : Rat) := by
  have k := pcs_ok h
  have f := pcs_fin h he
  have h0 := tot_nn k
  have hx : (0 : Rat) ≤ tot (pcs r) + 1 := by grind
  have hs := sn_ev_fin k f hx
  rw [if_neg (by grind)] at hs
  obtain ⟨t, _, h1, h2⟩ := (wf_rung h hx).ex
  obtain ⟨dA, dC, hA⟩ := ok_dis h
  have hsm := sn_sm dA hA (ev_supp' h hx)
  rw [hs] at hsm
  rcases h2 with z | ⟨_, z⟩
  · rw [← hsm] at z; exfalso; grind
  · have e : sm r.A (ev (pcs r) (tot (pcs r) + 1)) = sm r.A (fun j => (capR r.C j : Rat)) := sm_congr fun p hp => by
      obtain ⟨c, e1, e2⟩ := z p hp
      rw [e2]
      rw [lk_ratC] at e1
      unfold capR
      cases hq : lk r.C p.1 with
      | none => rw [hq] at e1; cases e1
      | some v => rw [hq] at e1; cases e1; rfl
    rw [hsm, e]
    have hc : sm r.C (fun j => (capR r.C j : Rat)) = (wsum r.C : Rat) := sm_cap dC fun p hp => hp
    rw [← hc, sm_keys, sm_keys]
    have nA : (r.A.map (·.1)).Nodup := List.pairwise_map.mpr dA
    have nC : (r.C.map (·.1)).Nodup := List.pairwise_map.mpr dC
    refine sum_perm (List.Perm.map _ ((List.perm_ext_iff_of_nodup nA nC).mpr fun a => ?_))
    constructor
    · intro ha
      obtain ⟨p, hp, rfl⟩ := List.mem_map.mp ha
      obtain ⟨c, e1, _⟩ := z p hp
      rw [lk_ratC] at e1
      cases hq : lk r.C p.1 with
      | none => rw [hq] at e1; cases e1
      | some v => exact List.mem_map.mpr ⟨(p.1, v), lk_mem hq, rfl⟩
    · intro ha
      obtain ⟨p, hp, rfl⟩ := List.mem_map.mp ha
      cases r with
      | fixed s => exact ha
      | shares w c =>
        obtain ⟨q, hq, e⟩ := h.2.2.2 p hp
        exact List.mem_map.mpr ⟨q, hq, e⟩
theorem ev_sat {n : Nat} : ∀ {ps : List Pc} {x : Rat} {h : Nat}, (∀ pc ∈ ps, PcOk n pc) → Fin ps → tot ps ≤ x → ev ps x h = ev ps (tot ps) h
  | [], x, h, _, _, _ => rfl
  | (none, r) :: ps, x, h, _, f, _ => absurd rfl (f (none, r) (by simp))
  | (some l, r) :: ps, x, h, k, f, hx => by
    have k' : ∀ pc ∈ ps, PcOk n pc := fun pc hp => k pc (List.mem_cons_of_mem _ hp)
    have f' : Fin ps := fun pc hp => f pc (List.mem_cons_of_mem _ hp)
    have t0 := tot_nn k'
    have hl := (k (some l, r) (by simp)).pos l rfl
    have hx : l + tot ps ≤ x := hx
    have key : ∀ y, l ≤ y → ev ((some l, r) :: ps) y h = l * r h + ev ps (y - l) h := fun y hy => by
      rw [ev_part k' (by grind)]
      have : partOf (some l) y = l := by unfold partOf; simp only; split <;> grind
      rw [this]
    show _ = ev ((some l, r) :: ps) (l + tot ps) h
    rw [key x (by grind), key (l + tot ps) (by grind), show l + tot ps - l = tot ps by grind, ev_sat k' f' (by grind)]
end Mx
namespace Sx
open PySem PySem.Spec PyProof.Rows L2 Mx
def dueN (rs : List Rung) : Nat := (rs.map fun r => wsum r.C).sum
theorem needR_take : ∀ (rs : List Rung) (k acc : Nat), (∃ r ∈ rs, r.endless = true) → needR (rs.take k) acc = if k < reachN rs then some (acc + dueN (rs.take k)) else none
  | [], k, acc, h => by obtain ⟨r, hr, _⟩ := h; cases hr
  | r :: rs, 0, acc, h => by
    have := reachN_pos (rs := r :: rs) (by simp)
    rw [List.take_zero, if_pos (by omega)]; rfl
  | r :: rs, k + 1, acc, h => by
    rw [List.take_succ_cons]
    have e : needR (r :: rs.take k) acc = if r.endless = true then none else needR (rs.take k) (acc + wsum r.C) := rfl
    rw [e, reachN_c]
    by_cases he : r.endless = true
    · rw [if_pos he, if_pos he, if_neg (by omega)]
    · rw [if_neg he, if_neg he, needR_take rs k _ (by
        obtain ⟨q, hq, e⟩ := h
        rcases List.mem_cons.mp hq with z | z
        · rw [z] at e; exact absurd e he
        · exact ⟨q, z, e⟩)]
      have ed : dueN (r :: rs.take k) = wsum r.C + dueN (rs.take k) := rfl
      by_cases hk : k < reachN rs
      · rw [if_pos hk, if_pos (by omega), ed, Nat.add_assoc]
      · rw [if_neg hk, if_neg (by omega)]
theorem reach_not : ∀ (rs : List Rung) (k : Nat) (r : Rung), rs[k]? = some r → k + 1 < reachN rs → r.endless = false
  | [], k, r, h, _ => by simp at h
  | q :: rs, 0, r, h, hk => by
    have h : q = r := by simpa using h
    subst h
    rw [reachN_c] at hk
    by_cases he : q.endless = true
    · rw [if_pos he] at hk; omega
    · simpa using he
  | q :: rs, k + 1, r, h, hk => by
    rw [reachN_c] at hk
    split at hk
    · omega
    · exact reach_not rs k r (by simpa using h) (by omega)
theorem paysR_at {n : Nat} : ∀ (rs : List Rung) (k : Nat) (X : Rat) (r : Rung), (∀ r ∈ rs, r.Ok n) → rs[k]? = some r → k < reachN rs → (dueN (rs.take k) : Rat) ≤ X → (paysR n rs X)[k]? = some (ev (pcs r) (X - (dueN (rs.take k) : Rat)))
  | [], k, X, r, _, h, _, _ => by simp at h
  | q :: rs, 0, X, r, _, h, _, _ => by
    have h : q = r := by simpa using h
    subst h
    show some (ev (pcs q) X) = _
    have : X - ((dueN (List.take 0 (q :: rs)) : Nat) : Rat) = X := by show X - ((0 : Nat) : Rat) = X; have : ((0 : Nat) : Rat) = 0 := rfl; rw [this]; grind
    rw [this]
  | q :: rs, k + 1, X, r, ok, h, hk, hX => by
    have hq := ok q (by simp)
    have hne : q.endless = false := by
      rw [reachN_c] at hk
      by_cases he : q.endless = true
      · rw [if_pos he] at hk; omega
      · simpa using he
    have ed : ((dueN ((q :: rs).take (k + 1)) : Nat) : Rat) = (wsum q.C : Rat) + (dueN (rs.take k) : Rat) := by
      rw [List.take_succ_cons]
      show ((wsum q.C + dueN (rs.take k) : Nat) : Rat) = _
      rw [Rat.natCast_add]
    rw [ed] at hX ⊢
    have ht := tot_C hq hne
    have d0 : (0 : Rat) ≤ (dueN (rs.take k) : Rat) := Rat.natCast_nonneg
    have t0 : (0 : Rat) ≤ (wsum q.C : Rat) := Rat.natCast_nonneg
    have hsn := sn_ev_fin (pcs_ok hq) (pcs_fin hq hne) (show (0 : Rat) ≤ X by grind)
    have hs2 : sn n (ev (pcs q) X) = (wsum q.C : Rat) := by
      rw [hsn, ht]
      split <;> grind
    show (paysR n rs (X - sn n (ev (pcs q) X)))[k]? = _
    rw [hs2, paysR_at rs k (X - (wsum q.C : Rat)) r (fun p hp => ok p (List.mem_cons_of_mem _ hp)) (by simpa using h) (by
      rw [reachN_c, if_neg (by simp [hne])] at hk; omega) (by grind)]
    congr 2
    grind
theorem paysR_drop {n : Nat} : ∀ (rs : List Rung) (X : Rat), (∀ r ∈ rs, r.Ok n) → 0 ≤ X → (∃ r ∈ rs, r.endless = true) → ∀ f ∈ (paysR n rs X).drop (reachN rs), ∀ h, f h = 0
  | [], X, _, _, h => by obtain ⟨r, hr, _⟩ := h; cases hr
  | q :: rs, X, ok, hX, he => by
    have hq := ok q (by simp)
    have ok' : ∀ r ∈ rs, r.Ok n := fun p hp => ok p (List.mem_cons_of_mem _ hp)
    rw [reachN_c]
    by_cases hen : q.endless = true
    · rw [if_pos hen]
      have hz : X - sn n (ev (pcs q) X) = 0 := by rw [sn_ev_end (pcs_ok hq) (pcs_end hq hen) hX]; grind
      show ∀ f ∈ (paysR n rs (X - sn n (ev (pcs q) X))), ∀ h, f h = 0
      rw [hz, paysR_zero ok']
      intro f hf h
      obtain ⟨_, _, rfl⟩ := List.mem_map.mp hf
      rfl
    · rw [if_neg hen]
      show ∀ f ∈ (paysR n rs (X - sn n (ev (pcs q) X))).drop (reachN rs), ∀ h, f h = 0
      exact paysR_drop rs _ ok' (rest_nn hq hX) (by
        obtain ⟨p, hp, e⟩ := he
        rcases List.mem_cons.mp hp with z | z
        · rw [z] at e; exact absurd e hen
        · exact ⟨p, z, e⟩)
theorem law_sum_ok {n k : Nat} {f : Nat → Rat} (hf : ∀ h, Bd k (f h)) (hk : (k + 1) * (n + 1) ≤ 4000) : F__law_sum [.tuple (rtL n f)] = .ok (fr (sn n f)) := by
  obtain ⟨o, ko, h⟩ := sum_loop (n := n) (k := k) (W := none) (f := f) (body := lB__law_sum_1) (i := 1) (j := 2) (fun w o => [some (.d (.tuple (rtL n f))), some (.d w), o]) hf hk (fun w o h => by simp) (fun s h hp => by simp [lB__law_sum_1, hp]) none (.inl rfl)
  unfold F__law_sum
  simp only [B__law_sum]
  have h : fL (gN 2) lB__law_sum_1 (rtL n f) [some (.d (.tuple (rtL n f))), some (.d (.tuple [.int 0, .int 1])), none] none = _ := h
  generalize rtL n f = R at *
  simp [h]
end Sx

namespace Sx
open PySem PySem.Spec PyProof.Rows L2
def top (i : Nat) : Stmt := PySem.Challenge.pw_payladders_k02_whole_payments.main.body.getD i (.Pass ⟨0, 0, 0, 0⟩)

def cC_law_1 : SB :=
    (bOf (eCall 2 F__law_below (aCons (eBin ixD (eVar 9) (eVar 16)) (aCons (eBin ixD (eVar 8) (eVar 16)) aNil))))
def cE_law_1 : SE :=
    (eVar 16)
def lB_law_2 : SS :=
    (sSeq (sAsg 13 (eBin ixD (eBin ixD (eVar 2) (eC (.int 1))) (eVar 11)))
    (sAsg 10 (eBin addD (eVar 10) (eBin mulD (eFrz (lLst (aCons (eVar 11) aNil))) (eCB intD (aCons (eAnd (eBin eqD (eBin ixD (eVar 13) (eC (.int 0))) (eC (.str "shares"))) (eBin gtD (eCB lenD (aCons (eBin ixD (eVar 13) (eC (.int 1))) aNil)) (eCB lenD (aCons (eBin ixD (eVar 13) (eBin subD (eCB lenD (aCons (eVar 13) aNil)) (eC (.int 1)))) aNil)))) aNil))))))
def cC_law_3 : SB :=
    (bOf (eBin neD (eVar 17) (eBin mulD (eTup (aCons (eTup (aCons (eC (.int 0)) (aCons (eC (.int 1)) aNil))) aNil)) (eBin ixD (eVar 2) (eC (.int 0))))))
def cE_law_3 : SE :=
    (eVar 17)
def cE_law_5 : SE :=
    (eBin ixD (eVar 18) (eC (.int 1)))
def lB_law_4 : SS :=
    (sSeq (sAsg 13 (eBin ixD (eBin ixD (eVar 2) (eC (.int 1))) (eVar 11)))
    (sSeq (sAsg 12 (eBin addD (eVar 12) (eCB sumD (aCons (eFrz (lComp (iSeq (eBin ixD (eVar 13) (eBin subD (eCB lenD (aCons (eVar 13) aNil)) (eC (.int 1))))) (gN 18) bYes cE_law_5 [18])) aNil))))
    (sSeq (sAsg 14 (eIf (bOf (eBin ltD (eVar 11) (eBin ixD (eVar 10) (eC (.int 0))))) (eVar 12) (eC .none)))
    (sSeq (sIf (bOf (eBin neD (eCall 2 F_needed_for (aCons (eVar 2) (aCons (eVar 11) aNil))) (eVar 14))) (sRet (eC (.bool false))) sPass)
    (sIf (bAnd (bOf (eBin isNotD (eVar 14) (eC .none))) (bOf (eBin leD (eVar 14) (eC (.int 1000000))))) (sSeq (sAsg 15 (eBin ixD (eCall 2 F_pay_rungs (aCons (eVar 2) (aCons (eTup (aCons (eVar 14) (aCons (eC (.int 1)) aNil))) aNil))) (eVar 11)))
    (sIf (bOf (eBin neD (eVar 15) (eBin ixD (eCall 2 F__law_pays (aCons (eVar 2) (aCons (eTup (aCons (eC (.int 1000000)) (aCons (eC (.int 1)) aNil))) aNil))) (eVar 11)))) (sRet (eC (.bool false))) sPass)) sPass)))))
def B_law : SS :=
    (sSeq (sTown 1 (lCall 1 F__law_town (aCons (eVar 0) aNil)))
    (sSeq (sAsg 2 (eCallT 1 F__law_ladder (eVar 0) 1 (aCons (eC (.int 5)) aNil)))
    (sSeq (sAsg 3 (eCallT 0 F__law_amount (eVar 0) 1 aNil))
    (sSeq (sAsg 4 (eCall 2 F__law_pays (aCons (eVar 2) (aCons (eVar 3) aNil))))
    (sSeq (sIf (bOr (bOf (eBin neD (eCall 2 F_pay_rungs (aCons (eVar 2) (aCons (eVar 3) aNil))) (eCB tupleD (aCons (eVar 4) aNil)))) (bOf (eBin neD (eCall 2 F_pay (aCons (eVar 2) (aCons (eVar 3) aNil))) (eCall 2 F__law_total (aCons (eVar 2) (aCons (eVar 3) aNil)))))) (sRet (eC (.bool false))) sPass)
    (sSeq (sIf (bOf (eBin neD (eCall 1 F__law_sum (aCons (eCall 2 F_pay (aCons (eVar 2) (aCons (eVar 3) aNil))) aNil)) (eVar 3))) (sRet (eC (.bool false))) sPass)
    (sSeq (sAsg 5 (eCallT 0 F__law_amount (eVar 0) 1 aNil))
    (sSeq (sAsgG (gTu 2 (gsCons (gN 6) (gsCons (gN 7) gsNil))) (eIf (bOf (eCall 2 F__law_below (aCons (eVar 3) (aCons (eVar 5) aNil)))) (eTup (aCons (eVar 3) (aCons (eVar 5) aNil))) (eTup (aCons (eVar 5) (aCons (eVar 3) aNil)))))
    (sSeq (sPar [8, 9] (mD (eCall 2 F_pay (aCons (eVar 2) (aCons (eVar 6) aNil))) (mD (eCall 2 F_pay (aCons (eVar 2) (aCons (eVar 7) aNil))) mNil)))
    (sSeq (sIf (bOf (eBin neD (eFrz (lComp (iRng (aCons (eBin ixD (eVar 2) (eC (.int 0))) aNil)) (gN 16) cC_law_1 cE_law_1 [16])) (eFrz (lLst aNil)))) (sRet (eC (.bool false))) sPass)
    (sSeq (sAsg 10 (eFrz (lLst aNil)))
    (sSeq (sFor (iRng (aCons (eCB lenD (aCons (eBin ixD (eVar 2) (eC (.int 1))) aNil)) aNil)) (gN 11) lB_law_2)
    (sSeq (sIf (bOf (eBin neD (eCall 1 F_reached (aCons (eVar 2) aNil)) (eBin addD (eBin ixD (eVar 10) (eC (.int 0))) (eC (.int 1))))) (sRet (eC (.bool false))) sPass)
    (sSeq (sIf (bOf (eBin neD (eFrz (lComp (iSeq (eSlice (eVar 4) (oSome (eCall 1 F_reached (aCons (eVar 2) aNil))) oNone)) (gN 17) cC_law_3 cE_law_3 [17])) (eFrz (lLst aNil)))) (sRet (eC (.bool false))) sPass)
    (sSeq (sAsg 12 (eC (.int 0)))
    (sSeq (sFor (iRng (aCons (eCB lenD (aCons (eBin ixD (eVar 2) (eC (.int 1))) aNil)) aNil)) (gN 11) lB_law_4)
    (sRet (eBin eqD (eCall 2 F_pay (aCons (eVar 2) (aCons (eTup (aCons (eC (.int 0)) (aCons (eC (.int 1)) aNil))) aNil))) (eBin mulD (eTup (aCons (eTup (aCons (eC (.int 0)) (aCons (eC (.int 1)) aNil))) aNil)) (eBin ixD (eVar 2) (eC (.int 0))))))))))))))))))))))
def F_law := runP 19 B_law

theorem sc_is_between : FnScope ["value", "low", "high"] ["value", "low", "high"] (defScope (top 8)) := ⟨rfl, rfl, rfl, by decide +kernel, rfl, by decide +kernel, by decide +kernel⟩
theorem cal_is_between {P : Program} {w : World} {K : PySem.W.Frag} {mg : Str → Option Value} {base : Heap} (g : Glob K mg) (F : ∃ f fd, FnP K "is_between" (top 8) f fd ∧ mg "is_between" = some (.ref f))  : CalP P w K mg base "is_between" 1 3 ["value", "low", "high"] F_is_between := by
  obtain ⟨f, fd, F, hm⟩ := F
  refine ⟨f, fd, ?_, hm, F.kp, F.bindsN fun _ _ _ _ _ _ us hl => match us, hl with | [_, _, _], _ => rfl⟩
  have sc := sc_is_between
  refine fn_P (toFun F) sc rfl fun cdv A outer s H E hr => ?_
  have hu := units64 hr
  have hu5 := units65 hr
  have hu1 := units1 hr
  exact (s_one (s_ret (d_and (d_isi rfl g.isinstance rfl g.int_ (by decide +kernel) (d_r (d_var (pv 0)))) (d_and (d_not (d_isi rfl g.isinstance rfl g.bool_ (by decide +kernel) (d_r (d_var (pv 0))))) (d_one (d_chain op_leD op_leD (d_r (d_var (pv 1))) (d_r (d_var (pv 0))) (d_r (d_var (pv 2)))))))))

theorem sc_divisor : FnScope ["one", "other"] ["one", "other"] (defScope (top 9)) := ⟨rfl, rfl, rfl, by decide +kernel, rfl, by decide +kernel, by decide +kernel⟩
theorem cal_divisor {P : Program} {w : World} {K : PySem.W.Frag} {mg : Str → Option Value} {base : Heap} (g : Glob K mg) (F : ∃ f fd, FnP K "divisor" (top 9) f fd ∧ mg "divisor" = some (.ref f))  : CalP P w K mg base "divisor" 1 2 ["one", "other"] F_divisor := by
  obtain ⟨f, fd, F, hm⟩ := F
  refine ⟨f, fd, ?_, hm, F.kp, F.bindsN fun _ _ _ _ _ _ us hl => match us, hl with | [_, _], _ => rfl⟩
  have sc := sc_divisor
  refine fn_P (toFun F) sc rfl fun cdv A outer s H E hr => ?_
  have hu := units64 hr
  have hu5 := units65 hr
  have hu1 := units1 hr
  exact (s_cons (s_while PassesOwn.never (c_cmp (op_neQ hu) (d_r (d_var (pv 1))) (d_r d_int) (nomark _)) (s_one (s_par2 (ps_par (i := 0) (j := 1) rfl sc.nd rfl rfl (by decide) rfl rfl (m_d (d_var (pv 1)) (m_d (d_bin op_modD (d_r (d_var (pv 0))) (d_r (d_var (pv 1)))) m_nil)) rfl))))
    (s_one (s_ret (d_callB cb_abs rfl g.abs_ (by decide +kernel) (r_cons (d_r (d_var (pv 0))) r_nil)))))

theorem sc_fraction : FnScope ["top", "bottom", "shared"] ["top", "bottom"] (defScope (top 10)) := ⟨rfl, rfl, rfl, by decide +kernel, rfl, by decide +kernel, by decide +kernel⟩
theorem cal_fraction {P : Program} {w : World} {K : PySem.W.Frag} {mg : Str → Option Value} {base : Heap} (g : Glob K mg) (F : ∃ f fd, FnP K "fraction" (top 10) f fd ∧ mg "fraction" = some (.ref f)) (c_divisor : CalP P w K mg base "divisor" 1 2 ["one", "other"] F_divisor) : CalP P w K mg base "fraction" 2 2 ["top", "bottom"] F_fraction := by
  obtain ⟨f, fd, F, hm⟩ := F
  obtain ⟨f_divisor, fd_divisor, ok_divisor, mg_divisor, kp_divisor, bd_divisor⟩ := c_divisor
  refine ⟨f, fd, ?_, hm, F.kp, F.bindsN fun _ _ _ _ _ _ us hl => match us, hl with | [_, _], _ => rfl⟩
  have sc := sc_fraction
  refine fn_P (toFun F) sc rfl fun cdv A outer s H E hr => ?_
  have hu := units64 hr
  have hu5 := units65 hr
  have hu1 := units1 hr
  exact (s_cons (s_asg (ps_set (i := 2) sc.nd rfl (Or.inl rfl) (d_call ok_divisor (hr.mono (by decide : 1 ≤ 1)) rfl mg_divisor kp_divisor bd_divisor (a_cons (d_var (pv 0)) (a_cons (d_var (pv 1)) a_nil)))))
    (s_one (s_ret (d_tup (a_cons (d_bin op_fdivD (d_r (d_var (pv 0))) (d_r (d_var (pv 2)))) (a_cons (d_bin op_fdivD (d_r (d_var (pv 1))) (d_r (d_var (pv 2)))) a_nil))))))

theorem sc_plus : FnScope ["one", "other"] ["one", "other"] (defScope (top 11)) := ⟨rfl, rfl, rfl, by decide +kernel, rfl, by decide +kernel, by decide +kernel⟩
theorem cal_plus {P : Program} {w : World} {K : PySem.W.Frag} {mg : Str → Option Value} {base : Heap} (g : Glob K mg) (F : ∃ f fd, FnP K "plus" (top 11) f fd ∧ mg "plus" = some (.ref f)) (c_fraction : CalP P w K mg base "fraction" 2 2 ["top", "bottom"] F_fraction) : CalP P w K mg base "plus" 3 2 ["one", "other"] F_plus := by
  obtain ⟨f, fd, F, hm⟩ := F
  obtain ⟨f_fraction, fd_fraction, ok_fraction, mg_fraction, kp_fraction, bd_fraction⟩ := c_fraction
  refine ⟨f, fd, ?_, hm, F.kp, F.bindsN fun _ _ _ _ _ _ us hl => match us, hl with | [_, _], _ => rfl⟩
  have sc := sc_plus
  refine fn_P (toFun F) sc rfl fun cdv A outer s H E hr => ?_
  have hu := units64 hr
  have hu5 := units65 hr
  have hu1 := units1 hr
  exact (s_one (s_ret (d_call ok_fraction (hr.mono (by decide : 2 ≤ 2)) rfl mg_fraction kp_fraction bd_fraction (a_cons (d_bin op_addD (d_r (d_bin op_mulD (d_r (d_ix ix_D (d_r (d_var (pv 0))) (d_r d_int) (fun _ _ => rfl))) (d_r (d_ix ix_D (d_r (d_var (pv 1))) (d_r d_int) (fun _ _ => rfl))))) (d_r (d_bin op_mulD (d_r (d_ix ix_D (d_r (d_var (pv 1))) (d_r d_int) (fun _ _ => rfl))) (d_r (d_ix ix_D (d_r (d_var (pv 0))) (d_r d_int) (fun _ _ => rfl)))))) (a_cons (d_bin op_mulD (d_r (d_ix ix_D (d_r (d_var (pv 0))) (d_r d_int) (fun _ _ => rfl))) (d_r (d_ix ix_D (d_r (d_var (pv 1))) (d_r d_int) (fun _ _ => rfl)))) a_nil)))))

theorem sc_minus : FnScope ["one", "other"] ["one", "other"] (defScope (top 12)) := ⟨rfl, rfl, rfl, by decide +kernel, rfl, by decide +kernel, by decide +kernel⟩
theorem cal_minus {P : Program} {w : World} {K : PySem.W.Frag} {mg : Str → Option Value} {base : Heap} (g : Glob K mg) (F : ∃ f fd, FnP K "minus" (top 12) f fd ∧ mg "minus" = some (.ref f)) (c_plus : CalP P w K mg base "plus" 3 2 ["one", "other"] F_plus) : CalP P w K mg base "minus" 4 2 ["one", "other"] F_minus := by
  obtain ⟨f, fd, F, hm⟩ := F
  obtain ⟨f_plus, fd_plus, ok_plus, mg_plus, kp_plus, bd_plus⟩ := c_plus
  refine ⟨f, fd, ?_, hm, F.kp, F.bindsN fun _ _ _ _ _ _ us hl => match us, hl with | [_, _], _ => rfl⟩
  have sc := sc_minus
  refine fn_P (toFun F) sc rfl fun cdv A outer s H E hr => ?_
  have hu := units64 hr
  have hu5 := units65 hr
  have hu1 := units1 hr
  exact (s_one (s_ret (d_call ok_plus (hr.mono (by decide : 3 ≤ 3)) rfl mg_plus kp_plus bd_plus (a_cons (d_var (pv 0)) (a_cons (d_tup (a_cons (d_un un_negD (d_r (d_ix ix_D (d_r (d_var (pv 1))) (d_r d_int) (fun _ _ => rfl)))) (a_cons (d_ix ix_D (d_r (d_var (pv 1))) (d_r d_int) (fun _ _ => rfl)) a_nil))) a_nil)))))

theorem sc_product : FnScope ["one", "other"] ["one", "other"] (defScope (top 13)) := ⟨rfl, rfl, rfl, by decide +kernel, rfl, by decide +kernel, by decide +kernel⟩
theorem cal_product {P : Program} {w : World} {K : PySem.W.Frag} {mg : Str → Option Value} {base : Heap} (g : Glob K mg) (F : ∃ f fd, FnP K "product" (top 13) f fd ∧ mg "product" = some (.ref f)) (c_fraction : CalP P w K mg base "fraction" 2 2 ["top", "bottom"] F_fraction) : CalP P w K mg base "product" 3 2 ["one", "other"] F_product := by
  obtain ⟨f, fd, F, hm⟩ := F
  obtain ⟨f_fraction, fd_fraction, ok_fraction, mg_fraction, kp_fraction, bd_fraction⟩ := c_fraction
  refine ⟨f, fd, ?_, hm, F.kp, F.bindsN fun _ _ _ _ _ _ us hl => match us, hl with | [_, _], _ => rfl⟩
  have sc := sc_product
  refine fn_P (toFun F) sc rfl fun cdv A outer s H E hr => ?_
  have hu := units64 hr
  have hu5 := units65 hr
  have hu1 := units1 hr
  exact (s_one (s_ret (d_call ok_fraction (hr.mono (by decide : 2 ≤ 2)) rfl mg_fraction kp_fraction bd_fraction (a_cons (d_bin op_mulD (d_r (d_ix ix_D (d_r (d_var (pv 0))) (d_r d_int) (fun _ _ => rfl))) (d_r (d_ix ix_D (d_r (d_var (pv 1))) (d_r d_int) (fun _ _ => rfl)))) (a_cons (d_bin op_mulD (d_r (d_ix ix_D (d_r (d_var (pv 0))) (d_r d_int) (fun _ _ => rfl))) (d_r (d_ix ix_D (d_r (d_var (pv 1))) (d_r d_int) (fun _ _ => rfl)))) a_nil)))))

theorem sc_quotient : FnScope ["one", "other"] ["one", "other"] (defScope (top 14)) := ⟨rfl, rfl, rfl, by decide +kernel, rfl, by decide +kernel, by decide +kernel⟩
theorem cal_quotient {P : Program} {w : World} {K : PySem.W.Frag} {mg : Str → Option Value} {base : Heap} (g : Glob K mg) (F : ∃ f fd, FnP K "quotient" (top 14) f fd ∧ mg "quotient" = some (.ref f)) (c_fraction : CalP P w K mg base "fraction" 2 2 ["top", "bottom"] F_fraction) : CalP P w K mg base "quotient" 3 2 ["one", "other"] F_quotient := by
  obtain ⟨f, fd, F, hm⟩ := F
  obtain ⟨f_fraction, fd_fraction, ok_fraction, mg_fraction, kp_fraction, bd_fraction⟩ := c_fraction
  refine ⟨f, fd, ?_, hm, F.kp, F.bindsN fun _ _ _ _ _ _ us hl => match us, hl with | [_, _], _ => rfl⟩
  have sc := sc_quotient
  refine fn_P (toFun F) sc rfl fun cdv A outer s H E hr => ?_
  have hu := units64 hr
  have hu5 := units65 hr
  have hu1 := units1 hr
  exact (s_one (s_ret (d_call ok_fraction (hr.mono (by decide : 2 ≤ 2)) rfl mg_fraction kp_fraction bd_fraction (a_cons (d_bin op_mulD (d_r (d_ix ix_D (d_r (d_var (pv 0))) (d_r d_int) (fun _ _ => rfl))) (d_r (d_ix ix_D (d_r (d_var (pv 1))) (d_r d_int) (fun _ _ => rfl)))) (a_cons (d_bin op_mulD (d_r (d_ix ix_D (d_r (d_var (pv 0))) (d_r d_int) (fun _ _ => rfl))) (d_r (d_ix ix_D (d_r (d_var (pv 1))) (d_r d_int) (fun _ _ => rfl)))) a_nil)))))

theorem sc_is_less : FnScope ["one", "other"] ["one", "other"] (defScope (top 15)) := ⟨rfl, rfl, rfl, by decide +kernel, rfl, by decide +kernel, by decide +kernel⟩
theorem cal_is_less {P : Program} {w : World} {K : PySem.W.Frag} {mg : Str → Option Value} {base : Heap} (g : Glob K mg) (F : ∃ f fd, FnP K "is_less" (top 15) f fd ∧ mg "is_less" = some (.ref f))  : CalP P w K mg base "is_less" 1 2 ["one", "other"] F_is_less := by
  obtain ⟨f, fd, F, hm⟩ := F
  refine ⟨f, fd, ?_, hm, F.kp, F.bindsN fun _ _ _ _ _ _ us hl => match us, hl with | [_, _], _ => rfl⟩
  have sc := sc_is_less
  refine fn_P (toFun F) sc rfl fun cdv A outer s H E hr => ?_
  have hu := units64 hr
  have hu5 := units65 hr
  have hu1 := units1 hr
  exact (s_one (s_ret (d_cmp op_ltD (d_r (d_bin op_mulD (d_r (d_ix ix_D (d_r (d_var (pv 0))) (d_r d_int) (fun _ _ => rfl))) (d_r (d_ix ix_D (d_r (d_var (pv 1))) (d_r d_int) (fun _ _ => rfl))))) (d_r (d_bin op_mulD (d_r (d_ix ix_D (d_r (d_var (pv 1))) (d_r d_int) (fun _ _ => rfl))) (d_r (d_ix ix_D (d_r (d_var (pv 0))) (d_r d_int) (fun _ _ => rfl))))) (nomark _))))

theorem sc_lesser : FnScope ["one", "other"] ["one", "other"] (defScope (top 16)) := ⟨rfl, rfl, rfl, by decide +kernel, rfl, by decide +kernel, by decide +kernel⟩
theorem cal_lesser {P : Program} {w : World} {K : PySem.W.Frag} {mg : Str → Option Value} {base : Heap} (g : Glob K mg) (F : ∃ f fd, FnP K "lesser" (top 16) f fd ∧ mg "lesser" = some (.ref f)) (c_is_less : CalP P w K mg base "is_less" 1 2 ["one", "other"] F_is_less) : CalP P w K mg base "lesser" 2 2 ["one", "other"] F_lesser := by
  obtain ⟨f, fd, F, hm⟩ := F
  obtain ⟨f_is_less, fd_is_less, ok_is_less, mg_is_less, kp_is_less, bd_is_less⟩ := c_is_less
  refine ⟨f, fd, ?_, hm, F.kp, F.bindsN fun _ _ _ _ _ _ us hl => match us, hl with | [_, _], _ => rfl⟩
  have sc := sc_lesser
  refine fn_P (toFun F) sc rfl fun cdv A outer s H E hr => ?_
  have hu := units64 hr
  have hu5 := units65 hr
  have hu1 := units1 hr
  exact (s_one (s_ret (d_if (c_val (d_call ok_is_less (hr.mono (by decide : 1 ≤ 1)) rfl mg_is_less kp_is_less bd_is_less (a_cons (d_var (pv 1)) (a_cons (d_var (pv 0)) a_nil)))) (d_var (pv 1)) (d_var (pv 0)))))

theorem sc_are_pairs : FnScope ["holders", "value", "most", "least", "pair", "k"] ["holders", "value", "most", "least"] (defScope (top 17)) := ⟨rfl, rfl, rfl, by decide +kernel, rfl, by decide +kernel, by decide +kernel⟩
theorem cal_are_pairs {P : Program} {w : World} {K : PySem.W.Frag} {mg : Str → Option Value} {base : Heap} (g : Glob K mg) (F : ∃ f fd, FnP K "are_pairs" (top 17) f fd ∧ mg "are_pairs" = some (.ref f)) (c_is_between : CalP P w K mg base "is_between" 1 3 ["value", "low", "high"] F_is_between) : CalP P w K mg base "are_pairs" 2 4 ["holders", "value", "most", "least"] F_are_pairs := by
  obtain ⟨f, fd, F, hm⟩ := F
  obtain ⟨f_is_between, fd_is_between, ok_is_between, mg_is_between, kp_is_between, bd_is_between⟩ := c_is_between
  refine ⟨f, fd, ?_, hm, F.kp, F.bindsN fun _ _ _ _ _ _ us hl => match us, hl with | [_, _, _, _], _ => rfl⟩
  have sc := sc_are_pairs
  refine fn_P (toFun F) sc rfl fun cdv A outer s H E hr => ?_
  have hu := units64 hr
  have hu5 := units65 hr
  have hu1 := units1 hr
  exact (s_cons (s_if (PW.pt (c_or (c_not (c_val (d_isi rfl g.isinstance rfl g.tuple_ (by decide +kernel) (d_r (d_var (pv 1)))))) (c_or1 (c_cmp op_ltD (d_r (d_callB cb_len rfl g.len_ (by decide +kernel) (r_cons (d_r (d_var (pv 1))) r_nil))) (d_r (d_var (pv 3))) (nomark _))))) (s_one (s_ret d_bl)) s_nil)
    (s_cons (s_for PassesOwn.never rfl (i_seq (d_var (pv 1))) (g_name (pg_name (i := 4) sc.nd rfl (Or.inl rfl))) (s_cons (s_if (PW.pt (c_or (c_not (c_val (d_isi rfl g.isinstance rfl g.tuple_ (by decide +kernel) (d_r (d_var (pv 4)))))) (c_or (c_cmp (op_neQ hu) (d_r (d_callB cb_len rfl g.len_ (by decide +kernel) (r_cons (d_r (d_var (pv 4))) r_nil))) (d_r d_int) (nomark _)) (c_or1 (c_not (c_val (d_call ok_is_between (hr.mono (by decide : 1 ≤ 1)) rfl mg_is_between kp_is_between bd_is_between (a_cons (d_ix ix_D (d_r (d_var (pv 4))) (d_r d_int) (fun _ _ => rfl)) (a_cons d_int (a_cons (d_bin op_subD (d_r (d_var (pv 0))) (d_r d_int)) a_nil)))))))))) (s_one (s_ret d_bl)) s_nil)
    (s_one (s_if (c_not (c_val (d_call ok_is_between (hr.mono (by decide : 1 ≤ 1)) rfl mg_is_between kp_is_between bd_is_between (a_cons (d_ix ix_D (d_r (d_var (pv 4))) (d_r d_int) (fun _ _ => rfl)) (a_cons d_int (a_cons (d_var (pv 2)) a_nil)))))) (s_one (s_ret d_bl)) s_nil))))
    (s_one (s_ret (d_callB (cb_all rfl) rfl g.all_ (by decide +kernel) (r_cons (d_r (d_frz (l_comp (own := [("k", 5)]) rfl sc.nd (i_rng rfl g.range_ (a_cons (d_bin op_subD (d_r (d_callB cb_len rfl g.len_ (by decide +kernel) (r_cons (d_r (d_var (pv 1))) r_nil))) (d_r d_int)) a_nil)) (blkOk_by (own := [("k", 5)]) (N := ["holders", "value", "most", "least", "pair", "k"]) (sc := defScope (top 17)) (by decide +kernel)) (fun _ _ _ _ _ => (g_name (pg_name (i := 5) sc.nd rfl (Or.inl rfl)))) (fun _ _ _ _ _ => t_yes) (fun _ _ _ _ _ => (d_cmp op_ltD (d_r (d_ix ix_D (d_r (d_ix ix_D (d_r (d_var (pv 1))) (d_r (d_var (pv 5))) (fun _ _ => rfl))) (d_r d_int) (fun _ _ => rfl))) (d_r (d_ix ix_D (d_r (d_ix ix_D (d_r (d_var (pv 1))) (d_r (d_bin op_addD (d_r (d_var (pv 5))) (d_r d_int))) (fun _ _ => rfl))) (d_r d_int) (fun _ _ => rfl))) (nomark _))) (by decide)))) r_nil))))))

theorem sc_is_rung : FnScope ["holders", "value", "some", "holder", "weight", "cap"] ["holders", "value"] (defScope (top 18)) := ⟨rfl, rfl, rfl, by decide +kernel, rfl, by decide +kernel, by decide +kernel⟩
theorem cal_is_rung {P : Program} {w : World} {K : PySem.W.Frag} {mg : Str → Option Value} {base : Heap} (g : Glob K mg) (F : ∃ f fd, FnP K "is_rung" (top 18) f fd ∧ mg "is_rung" = some (.ref f)) (c_are_pairs : CalP P w K mg base "are_pairs" 2 4 ["holders", "value", "most", "least"] F_are_pairs) : CalP P w K mg base "is_rung" 3 2 ["holders", "value"] F_is_rung := by
  obtain ⟨f, fd, F, hm⟩ := F
  obtain ⟨f_are_pairs, fd_are_pairs, ok_are_pairs, mg_are_pairs, kp_are_pairs, bd_are_pairs⟩ := c_are_pairs
  refine ⟨f, fd, ?_, hm, F.kp, F.bindsN fun _ _ _ _ _ _ us hl => match us, hl with | [_, _], _ => rfl⟩
  have sc := sc_is_rung
  refine fn_P (toFun F) sc rfl fun cdv A outer s H E hr => ?_
  have hu := units64 hr
  have hu5 := units65 hr
  have hu1 := units1 hr
  exact (s_cons (s_if (PW.pt (c_or (c_not (c_val (d_isi rfl g.isinstance rfl g.tuple_ (by decide +kernel) (d_r (d_var (pv 1)))))) (c_or (c_not (c_chain op_leD op_leD (d_r d_int) (d_r (d_callB cb_len rfl g.len_ (by decide +kernel) (r_cons (d_r (d_var (pv 1))) r_nil))) (d_r d_int))) (c_or1 (c_not (c_val (d_isi rfl g.isinstance rfl g.str_ (by decide +kernel) (d_r (d_ix ix_D (d_r (d_var (pv 1))) (d_r d_int) (fun _ _ => rfl)))))))))) (s_one (s_ret d_bl)) s_nil)
    (s_cons (s_if (c_cmp (op_eqQ hu) (d_r (d_ix ix_D (d_r (d_var (pv 1))) (d_r d_int) (fun _ _ => rfl))) (d_r d_str) (nomark _)) (s_one (s_ret (d_and (d_cmp (op_eqQ hu) (d_r (d_callB cb_len rfl g.len_ (by decide +kernel) (r_cons (d_r (d_var (pv 1))) r_nil))) (d_r d_int) (nomark _)) (d_one (d_call ok_are_pairs (hr.mono (by decide : 2 ≤ 2)) rfl mg_are_pairs kp_are_pairs bd_are_pairs (a_cons (d_var (pv 0)) (a_cons (d_ix ix_D (d_r (d_var (pv 1))) (d_r d_int) (fun _ _ => rfl)) (a_cons d_int (a_cons d_int a_nil))))))))) s_nil)
    (s_cons (s_if (PW.pt (c_or (c_cmp (op_neQ hu) (d_r (d_ix ix_D (d_r (d_var (pv 1))) (d_r d_int) (fun _ _ => rfl))) (d_r d_str) (nomark _)) (c_or1 (c_cmp (op_neQ hu) (d_r (d_callB cb_len rfl g.len_ (by decide +kernel) (r_cons (d_r (d_var (pv 1))) r_nil))) (d_r d_int) (nomark _))))) (s_one (s_ret d_bl)) s_nil)
    (s_cons (s_if (PW.pt (c_or (c_not (c_val (d_call ok_are_pairs (hr.mono (by decide : 2 ≤ 2)) rfl mg_are_pairs kp_are_pairs bd_are_pairs (a_cons (d_var (pv 0)) (a_cons (d_ix ix_D (d_r (d_var (pv 1))) (d_r d_int) (fun _ _ => rfl)) (a_cons d_int (a_cons d_int a_nil))))))) (c_or1 (c_not (c_val (d_call ok_are_pairs (hr.mono (by decide : 2 ≤ 2)) rfl mg_are_pairs kp_are_pairs bd_are_pairs (a_cons (d_var (pv 0)) (a_cons (d_ix ix_D (d_r (d_var (pv 1))) (d_r d_int) (fun _ _ => rfl)) (a_cons d_int (a_cons d_int a_nil)))))))))) (s_one (s_ret d_bl)) s_nil)
    (s_cons (s_asg (ps_set (i := 2) sc.nd rfl (Or.inr rfl) (d_frz (l_comp (own := [("holder", 3), ("weight", 4)]) rfl sc.nd (i_seq (d_ix ix_D (d_r (d_var (pv 1))) (d_r d_int) (fun _ _ => rfl))) (blkOk_by (own := [("holder", 3), ("weight", 4)]) (N := ["holders", "value", "some", "holder", "weight", "cap"]) (sc := defScope (top 18)) (by decide +kernel)) (fun _ _ _ _ _ => (g_tup rfl (gs_cons (g_name (pg_name (i := 3) sc.nd rfl (Or.inl rfl))) (gs_cons (g_name (pg_name (i := 4) sc.nd rfl (Or.inl rfl))) gs_nil)))) (fun _ _ _ _ _ => t_yes) (fun _ _ _ _ _ => (d_var (pv 3))) (by decide)))))
    (s_one (s_ret (d_callB (cb_all rfl) rfl g.all_ (by decide +kernel) (r_cons (d_r (d_frz (l_comp (own := [("holder", 3), ("cap", 5)]) rfl sc.nd (i_seq (d_ix ix_D (d_r (d_var (pv 1))) (d_r d_int) (fun _ _ => rfl))) (blkOk_by (own := [("holder", 3), ("cap", 5)]) (N := ["holders", "value", "some", "holder", "weight", "cap"]) (sc := defScope (top 18)) (by decide +kernel)) (fun _ _ _ _ _ => (g_tup rfl (gs_cons (g_name (pg_name (i := 3) sc.nd rfl (Or.inl rfl))) (gs_cons (g_name (pg_name (i := 5) sc.nd rfl (Or.inl rfl))) gs_nil)))) (fun _ _ _ _ _ => t_yes) (fun _ _ _ _ _ => (d_cmp (op_inQ hu5) (d_r (d_var (pv 3))) (d_r (d_var (pv 2))) (by rfl))) (by decide)))) r_nil)))))))))

theorem sc_is_endless : FnScope ["rung"] ["rung"] (defScope (top 19)) := ⟨rfl, rfl, rfl, by decide +kernel, rfl, by decide +kernel, by decide +kernel⟩
theorem cal_is_endless {P : Program} {w : World} {K : PySem.W.Frag} {mg : Str → Option Value} {base : Heap} (g : Glob K mg) (F : ∃ f fd, FnP K "is_endless" (top 19) f fd ∧ mg "is_endless" = some (.ref f))  : CalP P w K mg base "is_endless" 1 1 ["rung"] F_is_endless := by
  obtain ⟨f, fd, F, hm⟩ := F
  refine ⟨f, fd, ?_, hm, F.kp, F.bindsN fun _ _ _ _ _ _ us hl => match us, hl with | [_], _ => rfl⟩
  have sc := sc_is_endless
  refine fn_P (toFun F) sc rfl fun cdv A outer s H E hr => ?_
  have hu := units64 hr
  have hu5 := units65 hr
  have hu1 := units1 hr
  exact (s_one (s_ret (d_and (d_cmp (op_eqQ hu) (d_r (d_ix ix_D (d_r (d_var (pv 0))) (d_r d_int) (fun _ _ => rfl))) (d_r d_str) (nomark _)) (d_one (d_cmp op_ltD (d_r (d_callB cb_len rfl g.len_ (by decide +kernel) (r_cons (d_r (d_ix ix_D (d_r (d_var (pv 0))) (d_r d_int) (fun _ _ => rfl))) r_nil))) (d_r (d_callB cb_len rfl g.len_ (by decide +kernel) (r_cons (d_r (d_ix ix_D (d_r (d_var (pv 0))) (d_r d_int) (fun _ _ => rfl))) r_nil))) (nomark _))))))

theorem sc_is_ladder : FnScope ["value", "holders", "rungs", "rung"] ["value"] (defScope (top 20)) := ⟨rfl, rfl, rfl, by decide +kernel, rfl, by decide +kernel, by decide +kernel⟩
theorem cal_is_ladder {P : Program} {w : World} {K : PySem.W.Frag} {mg : Str → Option Value} {base : Heap} (g : Glob K mg) (F : ∃ f fd, FnP K "is_ladder" (top 20) f fd ∧ mg "is_ladder" = some (.ref f)) (c_is_endless : CalP P w K mg base "is_endless" 1 1 ["rung"] F_is_endless) (c_is_between : CalP P w K mg base "is_between" 1 3 ["value", "low", "high"] F_is_between) (c_is_rung : CalP P w K mg base "is_rung" 3 2 ["holders", "value"] F_is_rung) : CalP P w K mg base "is_ladder" 4 1 ["value"] F_is_ladder := by
  obtain ⟨f, fd, F, hm⟩ := F
  obtain ⟨f_is_endless, fd_is_endless, ok_is_endless, mg_is_endless, kp_is_endless, bd_is_endless⟩ := c_is_endless
  obtain ⟨f_is_between, fd_is_between, ok_is_between, mg_is_between, kp_is_between, bd_is_between⟩ := c_is_between
  obtain ⟨f_is_rung, fd_is_rung, ok_is_rung, mg_is_rung, kp_is_rung, bd_is_rung⟩ := c_is_rung
  refine ⟨f, fd, ?_, hm, F.kp, F.bindsN fun _ _ _ _ _ _ us hl => match us, hl with | [_], _ => rfl⟩
  have sc := sc_is_ladder
  refine fn_P (toFun F) sc rfl fun cdv A outer s H E hr => ?_
  have hu := units64 hr
  have hu5 := units65 hr
  have hu1 := units1 hr
  exact (s_cons (s_if (PW.pt (c_or (c_not (c_val (d_isi rfl g.isinstance rfl g.tuple_ (by decide +kernel) (d_r (d_var (pv 0)))))) (c_or (c_cmp (op_neQ hu) (d_r (d_callB cb_len rfl g.len_ (by decide +kernel) (r_cons (d_r (d_var (pv 0))) r_nil))) (d_r d_int) (nomark _)) (c_or1 (c_not (c_val (d_call ok_is_between (hr.mono (by decide : 1 ≤ 3)) rfl mg_is_between kp_is_between bd_is_between (a_cons (d_ix ix_D (d_r (d_var (pv 0))) (d_r d_int) (fun _ _ => rfl)) (a_cons d_int (a_cons d_int a_nil)))))))))) (s_one (s_ret d_bl)) s_nil)
    (s_cons (s_asgG (ps_asg (d_var (pv 0)) (g_tup rfl (gs_cons (g_name (pg_name (i := 1) sc.nd rfl (Or.inr rfl))) (gs_cons (g_name (pg_name (i := 2) sc.nd rfl (Or.inl rfl))) gs_nil)))))
    (s_cons (s_if (PW.pt (c_or (c_not (c_val (d_isi rfl g.isinstance rfl g.tuple_ (by decide +kernel) (d_r (d_var (pv 2)))))) (c_or1 (c_not (c_chain op_leD op_leD (d_r d_int) (d_r (d_callB cb_len rfl g.len_ (by decide +kernel) (r_cons (d_r (d_var (pv 2))) r_nil))) (d_r d_int)))))) (s_one (s_ret d_bl)) s_nil)
    (s_one (s_ret (d_and (d_callB (cb_all rfl) rfl g.all_ (by decide +kernel) (r_cons (d_r (d_frz (l_comp (own := [("rung", 3)]) rfl sc.nd (i_seq (d_var (pv 2))) (blkOk_by (own := [("rung", 3)]) (N := ["value", "holders", "rungs", "rung"]) (sc := defScope (top 20)) (by decide +kernel)) (fun _ _ _ _ _ => (g_name (pg_name (i := 3) sc.nd rfl (Or.inl rfl)))) (fun _ _ _ _ _ => t_yes) (fun _ _ _ _ _ => (d_call ok_is_rung (hr.mono (by decide : 3 ≤ 3)) rfl mg_is_rung kp_is_rung bd_is_rung (a_cons (d_var (pv 1)) (a_cons (d_var (pv 3)) a_nil)))) (by decide)))) r_nil)) (d_one (d_call ok_is_endless (hr.mono (by decide : 1 ≤ 3)) rfl mg_is_endless kp_is_endless bd_is_endless (a_cons (d_ix ix_D (d_r (d_var (pv 2))) (d_r (d_un un_negD (d_r d_int))) (fun _ _ => rfl)) a_nil)))))))))

theorem sc_check_ladder : FnScope ["value"] ["value"] (defScope (top 21)) := ⟨rfl, rfl, rfl, by decide +kernel, rfl, by decide +kernel, by decide +kernel⟩
theorem cal_check_ladder {P : Program} {w : World} {K : PySem.W.Frag} {mg : Str → Option Value} {base : Heap} (g : Glob K mg) (F : ∃ f fd, FnP K "check_ladder" (top 21) f fd ∧ mg "check_ladder" = some (.ref f)) (c_is_ladder : CalP P w K mg base "is_ladder" 4 1 ["value"] F_is_ladder) : CalP P w K mg base "check_ladder" 5 1 ["value"] F_check_ladder := by
  obtain ⟨f, fd, F, hm⟩ := F
  obtain ⟨f_is_ladder, fd_is_ladder, ok_is_ladder, mg_is_ladder, kp_is_ladder, bd_is_ladder⟩ := c_is_ladder
  refine ⟨f, fd, ?_, hm, F.kp, F.bindsN fun _ _ _ _ _ _ us hl => match us, hl with | [_], _ => rfl⟩
  have sc := sc_check_ladder
  refine fn_P (toFun F) sc rfl fun cdv A outer s H E hr => ?_
  have hu := units64 hr
  have hu5 := units65 hr
  have hu1 := units1 hr
  exact (s_one (s_if (c_not (c_val (d_call ok_is_ladder (hr.mono (by decide : 4 ≤ 4)) rfl mg_is_ladder kp_is_ladder bd_is_ladder (a_cons (d_var (pv 0)) a_nil)))) (s_one s_never) s_nil))

theorem sc_is_amount : FnScope ["value"] ["value"] (defScope (top 22)) := ⟨rfl, rfl, rfl, by decide +kernel, rfl, by decide +kernel, by decide +kernel⟩
theorem cal_is_amount {P : Program} {w : World} {K : PySem.W.Frag} {mg : Str → Option Value} {base : Heap} (g : Glob K mg) (F : ∃ f fd, FnP K "is_amount" (top 22) f fd ∧ mg "is_amount" = some (.ref f)) (gMOST : HasMost mg) (c_is_between : CalP P w K mg base "is_between" 1 3 ["value", "low", "high"] F_is_between) (c_divisor : CalP P w K mg base "divisor" 1 2 ["one", "other"] F_divisor) : CalP P w K mg base "is_amount" 2 1 ["value"] F_is_amount := by
  obtain ⟨f, fd, F, hm⟩ := F
  obtain ⟨f_is_between, fd_is_between, ok_is_between, mg_is_between, kp_is_between, bd_is_between⟩ := c_is_between
  obtain ⟨f_divisor, fd_divisor, ok_divisor, mg_divisor, kp_divisor, bd_divisor⟩ := c_divisor
  refine ⟨f, fd, ?_, hm, F.kp, F.bindsN fun _ _ _ _ _ _ us hl => match us, hl with | [_], _ => rfl⟩
  have sc := sc_is_amount
  refine fn_P (toFun F) sc rfl fun cdv A outer s H E hr => ?_
  have hu := units64 hr
  have hu5 := units65 hr
  have hu1 := units1 hr
  exact (s_cons (s_if (PW.pt (c_or (c_not (c_val (d_isi rfl g.isinstance rfl g.tuple_ (by decide +kernel) (d_r (d_var (pv 0)))))) (c_or (c_cmp (op_neQ hu) (d_r (d_callB cb_len rfl g.len_ (by decide +kernel) (r_cons (d_r (d_var (pv 0))) r_nil))) (d_r d_int) (nomark _)) (c_or1 (c_not (c_val (d_call ok_is_between (hr.mono (by decide : 1 ≤ 1)) rfl mg_is_between kp_is_between bd_is_between (a_cons (d_ix ix_D (d_r (d_var (pv 0))) (d_r d_int) (fun _ _ => rfl)) (a_cons d_int (a_cons d_int a_nil)))))))))) (s_one (s_ret d_bl)) s_nil)
    (s_one (s_ret (d_and (d_call ok_is_between (hr.mono (by decide : 1 ≤ 1)) rfl mg_is_between kp_is_between bd_is_between (a_cons (d_ix ix_D (d_r (d_var (pv 0))) (d_r d_int) (fun _ _ => rfl)) (a_cons d_int (a_cons (d_bin op_mulD (d_r (d_gint rfl gMOST)) (d_r (d_ix ix_D (d_r (d_var (pv 0))) (d_r d_int) (fun _ _ => rfl)))) a_nil)))) (d_one (d_cmp (op_eqQ hu) (d_r (d_call ok_divisor (hr.mono (by decide : 1 ≤ 1)) rfl mg_divisor kp_divisor bd_divisor (a_cons (d_ix ix_D (d_r (d_var (pv 0))) (d_r d_int) (fun _ _ => rfl)) (a_cons (d_ix ix_D (d_r (d_var (pv 0))) (d_r d_int) (fun _ _ => rfl)) a_nil)))) (d_r d_int) (nomark _)))))))

theorem sc_check_amount : FnScope ["value"] ["value"] (defScope (top 23)) := ⟨rfl, rfl, rfl, by decide +kernel, rfl, by decide +kernel, by decide +kernel⟩
theorem cal_check_amount {P : Program} {w : World} {K : PySem.W.Frag} {mg : Str → Option Value} {base : Heap} (g : Glob K mg) (F : ∃ f fd, FnP K "check_amount" (top 23) f fd ∧ mg "check_amount" = some (.ref f)) (c_is_amount : CalP P w K mg base "is_amount" 2 1 ["value"] F_is_amount) : CalP P w K mg base "check_amount" 3 1 ["value"] F_check_amount := by
  obtain ⟨f, fd, F, hm⟩ := F
  obtain ⟨f_is_amount, fd_is_amount, ok_is_amount, mg_is_amount, kp_is_amount, bd_is_amount⟩ := c_is_amount
  refine ⟨f, fd, ?_, hm, F.kp, F.bindsN fun _ _ _ _ _ _ us hl => match us, hl with | [_], _ => rfl⟩
  have sc := sc_check_amount
  refine fn_P (toFun F) sc rfl fun cdv A outer s H E hr => ?_
  have hu := units64 hr
  have hu5 := units65 hr
  have hu1 := units1 hr
  exact (s_one (s_if (c_not (c_val (d_call ok_is_amount (hr.mono (by decide : 2 ≤ 2)) rfl mg_is_amount kp_is_amount bd_is_amount (a_cons (d_var (pv 0)) a_nil)))) (s_one s_never) s_nil))

theorem sc_reached : FnScope ["ladder", "number", "rung"] ["ladder"] (defScope (top 24)) := ⟨rfl, rfl, rfl, by decide +kernel, rfl, by decide +kernel, by decide +kernel⟩
theorem cal_reached {P : Program} {w : World} {K : PySem.W.Frag} {mg : Str → Option Value} {base : Heap} (g : Glob K mg) (F : ∃ f fd, FnP K "reached" (top 24) f fd ∧ mg "reached" = some (.ref f)) (c_check_ladder : CalP P w K mg base "check_ladder" 5 1 ["value"] F_check_ladder) (c_is_endless : CalP P w K mg base "is_endless" 1 1 ["rung"] F_is_endless) : CalP P w K mg base "reached" 6 1 ["ladder"] F_reached := by
  obtain ⟨f, fd, F, hm⟩ := F
  obtain ⟨f_check_ladder, fd_check_ladder, ok_check_ladder, mg_check_ladder, kp_check_ladder, bd_check_ladder⟩ := c_check_ladder
  obtain ⟨f_is_endless, fd_is_endless, ok_is_endless, mg_is_endless, kp_is_endless, bd_is_endless⟩ := c_is_endless
  refine ⟨f, fd, ?_, hm, F.kp, F.bindsN fun _ _ _ _ _ _ us hl => match us, hl with | [_], _ => rfl⟩
  have sc := sc_reached
  refine fn_P (toFun F) sc rfl fun cdv A outer s H E hr => ?_
  have hu := units64 hr
  have hu5 := units65 hr
  have hu1 := units1 hr
  exact (s_cons (s_expr (d_call ok_check_ladder (hr.mono (by decide : 5 ≤ 5)) rfl mg_check_ladder kp_check_ladder bd_check_ladder (a_cons (d_var (pv 0)) a_nil)))
    (s_one (s_ret (d_bin op_addD (d_r (d_ix ix_D (d_r (d_frz (l_comp (own := [("number", 1), ("rung", 2)]) rfl sc.nd (i_enum rfl g.enumerate_ (a_cons (d_ix ix_D (d_r (d_var (pv 0))) (d_r d_int) (fun _ _ => rfl)) a_nil)) (blkOk_by (own := [("number", 1), ("rung", 2)]) (N := ["ladder", "number", "rung"]) (sc := defScope (top 24)) (by decide +kernel)) (fun _ _ _ _ _ => (g_tup rfl (gs_cons (g_name (pg_name (i := 1) sc.nd rfl (Or.inl rfl))) (gs_cons (g_name (pg_name (i := 2) sc.nd rfl (Or.inl rfl))) gs_nil)))) (fun _ _ _ _ _ => (t_one (c_val (d_call ok_is_endless (hr.mono (by decide : 1 ≤ 5)) rfl mg_is_endless kp_is_endless bd_is_endless (a_cons (d_var (pv 2)) a_nil))))) (fun _ _ _ _ _ => (d_var (pv 1))) (by decide)))) (d_r d_int) (fun _ _ => rfl))) (d_r d_int)))))

theorem sc_needed_for : FnScope ["ladder", "number", "found", "rung", "pair"] ["ladder", "number"] (defScope (top 25)) := ⟨rfl, rfl, rfl, by decide +kernel, rfl, by decide +kernel, by decide +kernel⟩
theorem cal_needed_for {P : Program} {w : World} {K : PySem.W.Frag} {mg : Str → Option Value} {base : Heap} (g : Glob K mg) (F : ∃ f fd, FnP K "needed_for" (top 25) f fd ∧ mg "needed_for" = some (.ref f)) (c_check_ladder : CalP P w K mg base "check_ladder" 5 1 ["value"] F_check_ladder) (c_is_between : CalP P w K mg base "is_between" 1 3 ["value", "low", "high"] F_is_between) (c_is_endless : CalP P w K mg base "is_endless" 1 1 ["rung"] F_is_endless) : CalP P w K mg base "needed_for" 6 2 ["ladder", "number"] F_needed_for := by
  obtain ⟨f, fd, F, hm⟩ := F
  obtain ⟨f_check_ladder, fd_check_ladder, ok_check_ladder, mg_check_ladder, kp_check_ladder, bd_check_ladder⟩ := c_check_ladder
  obtain ⟨f_is_between, fd_is_between, ok_is_between, mg_is_between, kp_is_between, bd_is_between⟩ := c_is_between
  obtain ⟨f_is_endless, fd_is_endless, ok_is_endless, mg_is_endless, kp_is_endless, bd_is_endless⟩ := c_is_endless
  refine ⟨f, fd, ?_, hm, F.kp, F.bindsN fun _ _ _ _ _ _ us hl => match us, hl with | [_, _], _ => rfl⟩
  have sc := sc_needed_for
  refine fn_P (toFun F) sc rfl fun cdv A outer s H E hr => ?_
  have hu := units64 hr
  have hu5 := units65 hr
  have hu1 := units1 hr
  exact (s_cons (s_expr (d_call ok_check_ladder (hr.mono (by decide : 5 ≤ 5)) rfl mg_check_ladder kp_check_ladder bd_check_ladder (a_cons (d_var (pv 0)) a_nil)))
    (s_cons (s_if (c_not (c_val (d_call ok_is_between (hr.mono (by decide : 1 ≤ 5)) rfl mg_is_between kp_is_between bd_is_between (a_cons (d_var (pv 1)) (a_cons d_int (a_cons (d_bin op_subD (d_r (d_callB cb_len rfl g.len_ (by decide +kernel) (r_cons (d_r (d_ix ix_D (d_r (d_var (pv 0))) (d_r d_int) (fun _ _ => rfl))) r_nil))) (d_r d_int)) a_nil)))))) (s_one s_never) s_nil)
    (s_cons (s_asg (ps_set (i := 2) sc.nd rfl (Or.inl rfl) d_int))
    (s_cons (s_for PassesOwn.never rfl (i_seq (d_slice (d_r (d_ix ix_D (d_r (d_var (pv 0))) (d_r d_int) (fun _ _ => rfl))) o_none (o_some (d_bin op_addD (d_r (d_var (pv 1))) (d_r d_int))))) (g_name (pg_name (i := 3) sc.nd rfl (Or.inl rfl))) (s_cons (s_if (c_val (d_call ok_is_endless (hr.mono (by decide : 1 ≤ 5)) rfl mg_is_endless kp_is_endless bd_is_endless (a_cons (d_var (pv 3)) a_nil))) (s_one (s_ret d_non)) s_nil)
    (s_one (s_asg (ps_set (i := 2) sc.nd rfl (Or.inl rfl) (d_bin op_addD (d_r (d_var (pv 2))) (d_r (d_callB (cb_sum rfl) rfl g.sum_ (by decide +kernel) (r_cons (d_r (d_frz (l_comp (own := [("pair", 4)]) rfl sc.nd (i_seq (d_ix ix_D (d_r (d_var (pv 3))) (d_r (d_un un_negD (d_r d_int))) (fun _ _ => rfl))) (blkOk_by (own := [("pair", 4)]) (N := ["ladder", "number", "found", "rung", "pair"]) (sc := defScope (top 25)) (by decide +kernel)) (fun _ _ _ _ _ => (g_name (pg_name (i := 4) sc.nd rfl (Or.inl rfl)))) (fun _ _ _ _ _ => t_yes) (fun _ _ _ _ _ => (d_ix ix_D (d_r (d_var (pv 4))) (d_r d_int) (fun _ _ => rfl))) (by decide)))) r_nil)))))))))
    (s_one (s_ret (d_var (pv 2))))))))

theorem sc_fixed_pieces : FnScope ["holders", "sums", "whole", "rates", "holder", "one"] ["holders", "sums"] (defScope (top 27)) := ⟨rfl, rfl, rfl, by decide +kernel, rfl, by decide +kernel, by decide +kernel⟩
theorem cal_fixed_pieces {P : Program} {w : World} {K : PySem.W.Frag} {mg : Str → Option Value} {base : Heap} (g : Glob K mg) (F : ∃ f fd, FnP K "fixed_pieces" (top 27) f fd ∧ mg "fixed_pieces" = some (.ref f)) (gZERO : HasZero K mg) (c_fraction : CalP P w K mg base "fraction" 2 2 ["top", "bottom"] F_fraction) : CalP P w K mg base "fixed_pieces" 3 2 ["holders", "sums"] F_fixed_pieces := by
  obtain ⟨f, fd, F, hm⟩ := F
  obtain ⟨f_fraction, fd_fraction, ok_fraction, mg_fraction, kp_fraction, bd_fraction⟩ := c_fraction
  refine ⟨f, fd, ?_, hm, F.kp, F.bindsN fun _ _ _ _ _ _ us hl => match us, hl with | [_, _], _ => rfl⟩
  have sc := sc_fixed_pieces
  refine fn_P (toFun F) sc rfl fun cdv A outer s H E hr => ?_
  have hu := units64 hr
  have hu5 := units65 hr
  have hu1 := units1 hr
  exact (s_cons (s_asg (ps_set (i := 2) sc.nd rfl (Or.inl rfl) (d_callB (cb_sum rfl) rfl g.sum_ (by decide +kernel) (r_cons (d_r (d_frz (l_comp (own := [("holder", 4), ("one", 5)]) rfl sc.nd (i_seq (d_var (pv 1))) (blkOk_by (own := [("holder", 4), ("one", 5)]) (N := ["holders", "sums", "whole", "rates", "holder", "one"]) (sc := defScope (top 27)) (by decide +kernel)) (fun _ _ _ _ _ => (g_tup rfl (gs_cons (g_name (pg_name (i := 4) sc.nd rfl (Or.inl rfl))) (gs_cons (g_name (pg_name (i := 5) sc.nd rfl (Or.inl rfl))) gs_nil)))) (fun _ _ _ _ _ => t_yes) (fun _ _ _ _ _ => (d_var (pv 5))) (by decide)))) r_nil))))
    (s_cons (s_own (ps_set (i := 3) sc.nd rfl (Or.inl rfl) (l_bin op_mulL (d_r (d_frz (l_lst (a_cons (d_gtup (is := [0, 1]) rfl gZERO) a_nil)))) (d_r (d_var (pv 0))))))
    (s_cons (s_for PassesOwn.never rfl (i_seq (d_var (pv 1))) (g_tup rfl (gs_cons (g_name (pg_name (i := 4) sc.nd rfl (Or.inl rfl))) (gs_cons (g_name (pg_name (i := 5) sc.nd rfl (Or.inl rfl))) gs_nil))) (s_one (s_set (ps_asg (d_call ok_fraction (hr.mono (by decide : 2 ≤ 2)) rfl mg_fraction kp_fraction bd_fraction (a_cons (d_var (pv 5)) (a_cons (d_var (pv 2)) a_nil))) (pg_sub (pv 3) (d_var (pv 4)) set_list)))))
    (s_one (s_ret (d_frz (l_lst (a_cons (d_tup (a_cons (d_tup (a_cons (d_var (pv 2)) (a_cons d_int a_nil))) (a_cons (d_callTy ct_tuple rfl g.tuple_ (by decide +kernel) (r_cons (d_bor (pv 3)) r_nil)) a_nil))) a_nil))))))))

theorem sc_share_pieces : FnScope ["holders", "weights", "caps", "left", "active", "found", "whole", "rates", "length", "holder", "weight", "time", "cap", "pair"] ["holders", "weights", "caps"] (defScope (top 28)) := ⟨rfl, rfl, rfl, by decide +kernel, rfl, by decide +kernel, by decide +kernel⟩
theorem cal_share_pieces {P : Program} {w : World} {K : PySem.W.Frag} {mg : Str → Option Value} {base : Heap} (g : Glob K mg) (F : ∃ f fd, FnP K "share_pieces" (top 28) f fd ∧ mg "share_pieces" = some (.ref f)) (gZERO : HasZero K mg) (c_fraction : CalP P w K mg base "fraction" 2 2 ["top", "bottom"] F_fraction) (c_quotient : CalP P w K mg base "quotient" 3 2 ["one", "other"] F_quotient) (c_lesser : CalP P w K mg base "lesser" 2 2 ["one", "other"] F_lesser) (c_minus : CalP P w K mg base "minus" 4 2 ["one", "other"] F_minus) (c_product : CalP P w K mg base "product" 3 2 ["one", "other"] F_product) : CalP P w K mg base "share_pieces" 5 3 ["holders", "weights", "caps"] F_share_pieces := by
  obtain ⟨f, fd, F, hm⟩ := F
  obtain ⟨f_fraction, fd_fraction, ok_fraction, mg_fraction, kp_fraction, bd_fraction⟩ := c_fraction
  obtain ⟨f_quotient, fd_quotient, ok_quotient, mg_quotient, kp_quotient, bd_quotient⟩ := c_quotient
  obtain ⟨f_lesser, fd_lesser, ok_lesser, mg_lesser, kp_lesser, bd_lesser⟩ := c_lesser
  obtain ⟨f_minus, fd_minus, ok_minus, mg_minus, kp_minus, bd_minus⟩ := c_minus
  obtain ⟨f_product, fd_product, ok_product, mg_product, kp_product, bd_product⟩ := c_product
  refine ⟨f, fd, ?_, hm, F.kp, F.bindsN fun _ _ _ _ _ _ us hl => match us, hl with | [_, _, _], _ => rfl⟩
  have sc := sc_share_pieces
  refine fn_P (toFun F) sc rfl fun cdv A outer s H E hr => ?_
  have hu := units64 hr
  have hu5 := units65 hr
  have hu1 := units1 hr
  exact (s_cons (s_dk (ps_set (i := 3) sc.nd rfl (Or.inr rfl) (k_dict rfl rfl g.dict_ (by decide +kernel) (d_frz (l_comp (own := [("holder", 9), ("cap", 12)]) rfl sc.nd (i_seq (d_var (pv 2))) (blkOk_by (own := [("holder", 9), ("cap", 12)]) (N := ["holders", "weights", "caps", "left", "active", "found", "whole", "rates", "length", "holder", "weight", "time", "cap", "pair"]) (sc := defScope (top 28)) (by decide +kernel)) (fun _ _ _ _ _ => (g_tup rfl (gs_cons (g_name (pg_name (i := 9) sc.nd rfl (Or.inl rfl))) (gs_cons (g_name (pg_name (i := 12) sc.nd rfl (Or.inl rfl))) gs_nil)))) (fun _ _ _ _ _ => t_yes) (fun _ _ _ _ _ => (d_tup (a_cons (d_var (pv 9)) (a_cons (d_tup (a_cons (d_var (pv 12)) (a_cons d_int a_nil))) a_nil)))) (by decide))))))
    (s_cons (s_par2 (ps_par (i := 4) (j := 5) rfl sc.nd rfl rfl (by decide) rfl rfl (m_d (d_frz (l_callTy ct_list rfl g.list_ (by decide +kernel) (r_cons (d_r (d_var (pv 1))) r_nil))) (m_l (l_lst a_nil) m_nil)) rfl))
    (s_cons (s_while PassesOwn.never (c_cmp (op_neQ hu) (d_r (d_var (pv 4))) (d_r (d_frz (l_lst a_nil))) (nomark _)) (s_cons (s_asg (ps_set (i := 6) sc.nd rfl (Or.inl rfl) (d_callB (cb_sum rfl) rfl g.sum_ (by decide +kernel) (r_cons (d_r (d_frz (l_comp (own := [("holder", 9), ("weight", 10)]) rfl sc.nd (i_seq (d_var (pv 4))) (blkOk_by (own := [("holder", 9), ("weight", 10)]) (N := ["holders", "weights", "caps", "left", "active", "found", "whole", "rates", "length", "holder", "weight", "time", "cap", "pair"]) (sc := defScope (top 28)) (by decide +kernel)) (fun _ _ _ _ _ => (g_tup rfl (gs_cons (g_name (pg_name (i := 9) sc.nd rfl (Or.inl rfl))) (gs_cons (g_name (pg_name (i := 10) sc.nd rfl (Or.inl rfl))) gs_nil)))) (fun _ _ _ _ _ => t_yes) (fun _ _ _ _ _ => (d_var (pv 10))) (by decide)))) r_nil))))
    (s_cons (s_own (ps_set (i := 7) sc.nd rfl (Or.inr rfl) (l_bin op_mulL (d_r (d_frz (l_lst (a_cons (d_gtup (is := [0, 1]) rfl gZERO) a_nil)))) (d_r (d_var (pv 0))))))
    (s_cons (s_asg (ps_set (i := 8) sc.nd rfl (Or.inr rfl) d_non))
    (s_cons (s_for PassesOwn.never rfl (i_seq (d_var (pv 4))) (g_tup rfl (gs_cons (g_name (pg_name (i := 9) sc.nd rfl (Or.inl rfl))) (gs_cons (g_name (pg_name (i := 10) sc.nd rfl (Or.inl rfl))) gs_nil))) (s_cons (s_set (ps_asg (d_call ok_fraction (hr.mono (by decide : 2 ≤ 4)) rfl mg_fraction kp_fraction bd_fraction (a_cons (d_var (pv 10)) (a_cons (d_var (pv 6)) a_nil))) (pg_sub (pv 7) (d_var (pv 9)) set_list)))
    (s_one (s_if (c_din hu1 (d_var (pv 9)) (pv 3)) (s_cons (s_asg (ps_set (i := 11) sc.nd rfl (Or.inl rfl) (d_call ok_quotient (hr.mono (by decide : 3 ≤ 4)) rfl mg_quotient kp_quotient bd_quotient (a_cons (d_dget hu1 (pv 3) (d_var (pv 9)) (fun _ _ => rfl)) (a_cons (d_ix ix_D (d_bor (pv 7)) (d_r (d_var (pv 9))) (fun _ _ => rfl)) a_nil)))))
    (s_one (s_asg (ps_set (i := 8) sc.nd rfl (Or.inr rfl) (d_if (c_cmp op_isQ (d_r (d_var (pv 8))) (d_r d_non) (nomark _)) (d_var (pv 11)) (d_call ok_lesser (hr.mono (by decide : 2 ≤ 4)) rfl mg_lesser kp_lesser bd_lesser (a_cons (d_var (pv 8)) (a_cons (d_var (pv 11)) a_nil)))))))) s_nil))))
    (s_cons (s_app (ps_expr (pe_bm PySem.F.plainAttrs_list PySem.F.slot_list_append PySem.F.type_list_append mt_append (pv 5) (pa_cons (d_tup (a_cons (d_var (pv 8)) (a_cons (d_callTy ct_tuple rfl g.tuple_ (by decide +kernel) (r_cons (d_bor (pv 7)) r_nil)) a_nil))) pa_nil))))
    (s_cons (s_if (c_cmp op_isQ (d_r (d_var (pv 8))) (d_r d_non) (nomark _)) (s_one (s_frz 5 (s_ret (d_var (pv 5))))) s_nil)
    (s_cons (s_dk (ps_set (i := 3) sc.nd rfl (Or.inr rfl) (k_dict rfl rfl g.dict_ (by decide +kernel) (d_frz (l_lock 3 (l_comp (own := [("holder", 9)]) rfl sc.nd (i_dk (pv 3)) (blkOk_by (own := [("holder", 9)]) (N := ["holders", "weights", "caps", "left", "active", "found", "whole", "rates", "length", "holder", "weight", "time", "cap", "pair"]) (sc := defScope (top 28)) (by decide +kernel)) (fun _ _ _ _ _ => (g_name (pg_name (i := 9) sc.nd rfl (Or.inl rfl)))) (fun _ _ _ _ _ => t_yes) (fun _ _ _ _ _ => (d_tup (a_cons (d_var (pv 9)) (a_cons (d_call ok_minus (hr.mono (by decide : 4 ≤ 4)) rfl mg_minus kp_minus bd_minus (a_cons (d_dget hu1 (pv 3) (d_var (pv 9)) (fun _ _ => rfl)) (a_cons (d_call ok_product (hr.mono (by decide : 3 ≤ 4)) rfl mg_product kp_product bd_product (a_cons (d_var (pv 8)) (a_cons (d_ix ix_D (d_bor (pv 7)) (d_r (d_var (pv 9))) (fun _ _ => rfl)) a_nil))) a_nil))) a_nil)))) (by decide)))))))
    (s_cons (s_asg (as_frz (as_comp (by decide) (ps_setLc (own := [("pair", 13)]) (i := 4) rfl sc.nd rfl rfl (sw_true rfl rfl rfl (by decide +kernel)) (i_seq (d_var (pv 4))) (blkOk_by (own := [("pair", 13)]) (N := ["holders", "weights", "caps", "left", "active", "found", "whole", "rates", "length", "holder", "weight", "time", "cap", "pair"]) (sc := defScope (top 28)) (by decide +kernel)) (fun _ _ _ _ _ => (g_name (pg_name (i := 13) sc.nd rfl (Or.inl rfl)))) (fun _ _ _ _ _ => (t_one (PW.pt (c_or (c_dnin hu1 (d_ix ix_D (d_r (d_var (pv 13))) (d_r d_int) (fun _ _ => rfl)) (pv 3)) (c_or1 (c_cmp (op_neQ hu) (d_r (d_dget hu1 (pv 3) (d_ix ix_D (d_r (d_var (pv 13))) (d_r d_int) (fun _ _ => rfl)) (fun _ _ => rfl))) (d_r (d_gtup (is := [0, 1]) rfl gZERO)) (nomark _))))))) (fun _ _ _ _ _ => (d_var (pv 13)))))))
    (s_one (s_dk (ps_set (i := 3) sc.nd rfl (Or.inr rfl) (k_dict rfl rfl g.dict_ (by decide +kernel) (d_frz (l_lock 3 (l_comp (own := [("holder", 9)]) rfl sc.nd (i_dk (pv 3)) (blkOk_by (own := [("holder", 9)]) (N := ["holders", "weights", "caps", "left", "active", "found", "whole", "rates", "length", "holder", "weight", "time", "cap", "pair"]) (sc := defScope (top 28)) (by decide +kernel)) (fun _ _ _ _ _ => (g_name (pg_name (i := 9) sc.nd rfl (Or.inl rfl)))) (fun _ _ _ _ _ => (t_one (c_cmp (op_neQ hu) (d_r (d_dget hu1 (pv 3) (d_var (pv 9)) (fun _ _ => rfl))) (d_r (d_gtup (is := [0, 1]) rfl gZERO)) (nomark _)))) (fun _ _ _ _ _ => (d_tup (a_cons (d_var (pv 9)) (a_cons (d_dget hu1 (pv 3) (d_var (pv 9)) (fun _ _ => rfl)) a_nil)))) (by decide)))))))))))))))))
    (s_one (s_frz 5 (s_ret (d_var (pv 5))))))))

theorem sc_rung_pieces : FnScope ["holders", "rung"] ["holders", "rung"] (defScope (top 29)) := ⟨rfl, rfl, rfl, by decide +kernel, rfl, by decide +kernel, by decide +kernel⟩
theorem cal_rung_pieces {P : Program} {w : World} {K : PySem.W.Frag} {mg : Str → Option Value} {base : Heap} (g : Glob K mg) (F : ∃ f fd, FnP K "rung_pieces" (top 29) f fd ∧ mg "rung_pieces" = some (.ref f)) (c_share_pieces : CalP P w K mg base "share_pieces" 5 3 ["holders", "weights", "caps"] F_share_pieces) (c_fixed_pieces : CalP P w K mg base "fixed_pieces" 3 2 ["holders", "sums"] F_fixed_pieces) : CalP P w K mg base "rung_pieces" 6 2 ["holders", "rung"] F_rung_pieces := by
  obtain ⟨f, fd, F, hm⟩ := F
  obtain ⟨f_share_pieces, fd_share_pieces, ok_share_pieces, mg_share_pieces, kp_share_pieces, bd_share_pieces⟩ := c_share_pieces
  obtain ⟨f_fixed_pieces, fd_fixed_pieces, ok_fixed_pieces, mg_fixed_pieces, kp_fixed_pieces, bd_fixed_pieces⟩ := c_fixed_pieces
  refine ⟨f, fd, ?_, hm, F.kp, F.bindsN fun _ _ _ _ _ _ us hl => match us, hl with | [_, _], _ => rfl⟩
  have sc := sc_rung_pieces
  refine fn_P (toFun F) sc rfl fun cdv A outer s H E hr => ?_
  have hu := units64 hr
  have hu5 := units65 hr
  have hu1 := units1 hr
  exact (s_cons (s_if (c_cmp (op_eqQ hu) (d_r (d_ix ix_D (d_r (d_var (pv 1))) (d_r d_int) (fun _ _ => rfl))) (d_r d_str) (nomark _)) (s_one (s_ret (d_call ok_fixed_pieces (hr.mono (by decide : 3 ≤ 5)) rfl mg_fixed_pieces kp_fixed_pieces bd_fixed_pieces (a_cons (d_var (pv 0)) (a_cons (d_ix ix_D (d_r (d_var (pv 1))) (d_r d_int) (fun _ _ => rfl)) a_nil))))) s_nil)
    (s_one (s_ret (d_call ok_share_pieces (hr.mono (by decide : 5 ≤ 5)) rfl mg_share_pieces kp_share_pieces bd_share_pieces (a_cons (d_var (pv 0)) (a_cons (d_ix ix_D (d_r (d_var (pv 1))) (d_r d_int) (fun _ _ => rfl)) (a_cons (d_ix ix_D (d_r (d_var (pv 1))) (d_r d_int) (fun _ _ => rfl)) a_nil)))))))

theorem sc_pieces_of : FnScope ["ladder", "found", "number", "rung", "length", "rates"] ["ladder"] (defScope (top 30)) := ⟨rfl, rfl, rfl, by decide +kernel, rfl, by decide +kernel, by decide +kernel⟩
theorem cal_pieces_of {P : Program} {w : World} {K : PySem.W.Frag} {mg : Str → Option Value} {base : Heap} (g : Glob K mg) (F : ∃ f fd, FnP K "pieces_of" (top 30) f fd ∧ mg "pieces_of" = some (.ref f)) (c_is_endless : CalP P w K mg base "is_endless" 1 1 ["rung"] F_is_endless) (c_rung_pieces : CalP P w K mg base "rung_pieces" 6 2 ["holders", "rung"] F_rung_pieces) : CalP P w K mg base "pieces_of" 7 1 ["ladder"] F_pieces_of := by
  obtain ⟨f, fd, F, hm⟩ := F
  obtain ⟨f_is_endless, fd_is_endless, ok_is_endless, mg_is_endless, kp_is_endless, bd_is_endless⟩ := c_is_endless
  obtain ⟨f_rung_pieces, fd_rung_pieces, ok_rung_pieces, mg_rung_pieces, kp_rung_pieces, bd_rung_pieces⟩ := c_rung_pieces
  refine ⟨f, fd, ?_, hm, F.kp, F.bindsN fun _ _ _ _ _ _ us hl => match us, hl with | [_], _ => rfl⟩
  have sc := sc_pieces_of
  refine fn_P (toFun F) sc rfl fun cdv A outer s H E hr => ?_
  have hu := units64 hr
  have hu5 := units65 hr
  have hu1 := units1 hr
  exact (s_cons (s_own (ps_set (i := 1) sc.nd rfl (Or.inl rfl) (l_lst a_nil)))
    (s_cons (s_for PassesOwn.never rfl (i_enum rfl g.enumerate_ (a_cons (d_ix ix_D (d_r (d_var (pv 0))) (d_r d_int) (fun _ _ => rfl)) a_nil)) (g_tup rfl (gs_cons (g_name (pg_name (i := 2) sc.nd rfl (Or.inr rfl))) (gs_cons (g_name (pg_name (i := 3) sc.nd rfl (Or.inl rfl))) gs_nil))) (s_cons (s_ext (ps_expr (pe_bm PySem.F.plainAttrs_list PySem.F.slot_list_extend PySem.F.type_list_extend mt_extend (pv 1) (pa_cons (l_comp (own := [("length", 4), ("rates", 5)]) rfl sc.nd (i_seq (d_call ok_rung_pieces (hr.mono (by decide : 6 ≤ 6)) rfl mg_rung_pieces kp_rung_pieces bd_rung_pieces (a_cons (d_ix ix_D (d_r (d_var (pv 0))) (d_r d_int) (fun _ _ => rfl)) (a_cons (d_var (pv 3)) a_nil)))) (blkOk_by (own := [("length", 4), ("rates", 5)]) (N := ["ladder", "found", "number", "rung", "length", "rates"]) (sc := defScope (top 30)) (by decide +kernel)) (fun _ _ _ _ _ => (g_tup rfl (gs_cons (g_name (pg_name (i := 4) sc.nd rfl (Or.inl rfl))) (gs_cons (g_name (pg_name (i := 5) sc.nd rfl (Or.inl rfl))) gs_nil)))) (fun _ _ _ _ _ => t_yes) (fun _ _ _ _ _ => (d_tup (a_cons (d_var (pv 2)) (a_cons (d_var (pv 4)) (a_cons (d_var (pv 5)) a_nil))))) (by decide)) pa_nil))))
    (s_one (s_if (c_val (d_call ok_is_endless (hr.mono (by decide : 1 ≤ 6)) rfl mg_is_endless kp_is_endless bd_is_endless (a_cons (d_var (pv 3)) a_nil))) (s_one (s_frz 1 (s_ret (d_var (pv 1))))) s_nil))))
    (s_one (s_frz 1 (s_ret (d_var (pv 1)))))))

theorem sc_found_bends : FnScope ["ladder", "holder", "found", "amount", "paid", "number", "length", "rates"] ["ladder", "holder"] (defScope (top 31)) := ⟨rfl, rfl, rfl, by decide +kernel, rfl, by decide +kernel, by decide +kernel⟩
theorem cal_found_bends {P : Program} {w : World} {K : PySem.W.Frag} {mg : Str → Option Value} {base : Heap} (g : Glob K mg) (F : ∃ f fd, FnP K "found_bends" (top 31) f fd ∧ mg "found_bends" = some (.ref f)) (gZERO : HasZero K mg) (c_pieces_of : CalP P w K mg base "pieces_of" 7 1 ["ladder"] F_pieces_of) (c_plus : CalP P w K mg base "plus" 3 2 ["one", "other"] F_plus) (c_product : CalP P w K mg base "product" 3 2 ["one", "other"] F_product) : CalP P w K mg base "found_bends" 8 2 ["ladder", "holder"] F_found_bends := by
  obtain ⟨f, fd, F, hm⟩ := F
  obtain ⟨f_pieces_of, fd_pieces_of, ok_pieces_of, mg_pieces_of, kp_pieces_of, bd_pieces_of⟩ := c_pieces_of
  obtain ⟨f_plus, fd_plus, ok_plus, mg_plus, kp_plus, bd_plus⟩ := c_plus
  obtain ⟨f_product, fd_product, ok_product, mg_product, kp_product, bd_product⟩ := c_product
  refine ⟨f, fd, ?_, hm, F.kp, F.bindsN fun _ _ _ _ _ _ us hl => match us, hl with | [_, _], _ => rfl⟩
  have sc := sc_found_bends
  refine fn_P (toFun F) sc rfl fun cdv A outer s H E hr => ?_
  have hu := units64 hr
  have hu5 := units65 hr
  have hu1 := units1 hr
  exact (s_cons (s_par3 (ps_par3 (i := 2) (j := 3) (l := 4) rfl sc.nd rfl rfl rfl (by decide) (by decide) (by decide) rfl rfl rfl (m_l (l_lst a_nil) (m_d (d_gtup (is := [0, 1]) rfl gZERO) (m_d (d_gtup (is := [0, 1]) rfl gZERO) m_nil))) rfl))
    (s_cons (s_for PassesOwn.never rfl (i_seq (d_call ok_pieces_of (hr.mono (by decide : 7 ≤ 7)) rfl mg_pieces_of kp_pieces_of bd_pieces_of (a_cons (d_var (pv 0)) a_nil))) (g_tup rfl (gs_cons (g_name (pg_name (i := 5) sc.nd rfl (Or.inl rfl))) (gs_cons (g_name (pg_name (i := 6) sc.nd rfl (Or.inl rfl))) (gs_cons (g_name (pg_name (i := 7) sc.nd rfl (Or.inl rfl))) gs_nil)))) (s_cons (s_if (PW.pt (c_or (c_cmp (op_eqQ hu) (d_bor (pv 2)) (d_r (d_frz (l_lst a_nil))) (nomark _)) (c_or1 (c_cmp (op_neQ hu) (d_r (d_ix ix_D (d_r (d_ix ix_D (d_bor (pv 2)) (d_r (d_un un_negD (d_r d_int))) (fun _ _ => rfl))) (d_r d_int) (fun _ _ => rfl))) (d_r (d_ix ix_D (d_r (d_var (pv 7))) (d_r (d_var (pv 1))) (fun _ _ => rfl))) (nomark _))))) (s_one (s_app (ps_expr (pe_bm PySem.F.plainAttrs_list PySem.F.slot_list_append PySem.F.type_list_append mt_append (pv 2) (pa_cons (d_tup (a_cons (d_var (pv 3)) (a_cons (d_var (pv 4)) (a_cons (d_ix ix_D (d_r (d_var (pv 7))) (d_r (d_var (pv 1))) (fun _ _ => rfl)) a_nil)))) pa_nil))))) s_nil)
    (s_one (s_if (c_cmp op_isNotQ (d_r (d_var (pv 6))) (d_r d_non) (nomark _)) (s_cons (s_asg (ps_set (i := 3) sc.nd rfl (Or.inl rfl) (d_call ok_plus (hr.mono (by decide : 3 ≤ 7)) rfl mg_plus kp_plus bd_plus (a_cons (d_var (pv 3)) (a_cons (d_var (pv 6)) a_nil)))))
    (s_one (s_asg (ps_set (i := 4) sc.nd rfl (Or.inl rfl) (d_call ok_plus (hr.mono (by decide : 3 ≤ 7)) rfl mg_plus kp_plus bd_plus (a_cons (d_var (pv 4)) (a_cons (d_call ok_product (hr.mono (by decide : 3 ≤ 7)) rfl mg_product kp_product bd_product (a_cons (d_var (pv 6)) (a_cons (d_ix ix_D (d_r (d_var (pv 7))) (d_r (d_var (pv 1))) (fun _ _ => rfl)) a_nil))) a_nil))))))) s_nil))))
    (s_one (s_frz 2 (s_ret (d_var (pv 2)))))))

theorem sc_payment_at : FnScope ["rows", "amount", "some", "start", "paid", "rate", "row"] ["rows", "amount"] (defScope (top 32)) := ⟨rfl, rfl, rfl, by decide +kernel, rfl, by decide +kernel, by decide +kernel⟩
theorem cal_payment_at {P : Program} {w : World} {K : PySem.W.Frag} {mg : Str → Option Value} {base : Heap} (g : Glob K mg) (F : ∃ f fd, FnP K "payment_at" (top 32) f fd ∧ mg "payment_at" = some (.ref f)) (c_plus : CalP P w K mg base "plus" 3 2 ["one", "other"] F_plus) (c_product : CalP P w K mg base "product" 3 2 ["one", "other"] F_product) (c_minus : CalP P w K mg base "minus" 4 2 ["one", "other"] F_minus) (c_is_less : CalP P w K mg base "is_less" 1 2 ["one", "other"] F_is_less) : CalP P w K mg base "payment_at" 5 2 ["rows", "amount"] F_payment_at := by
  obtain ⟨f, fd, F, hm⟩ := F
  obtain ⟨f_plus, fd_plus, ok_plus, mg_plus, kp_plus, bd_plus⟩ := c_plus
  obtain ⟨f_product, fd_product, ok_product, mg_product, kp_product, bd_product⟩ := c_product
  obtain ⟨f_minus, fd_minus, ok_minus, mg_minus, kp_minus, bd_minus⟩ := c_minus
  obtain ⟨f_is_less, fd_is_less, ok_is_less, mg_is_less, kp_is_less, bd_is_less⟩ := c_is_less
  refine ⟨f, fd, ?_, hm, F.kp, F.bindsN fun _ _ _ _ _ _ us hl => match us, hl with | [_, _], _ => rfl⟩
  have sc := sc_payment_at
  refine fn_P (toFun F) sc rfl fun cdv A outer s H E hr => ?_
  have hu := units64 hr
  have hu5 := units65 hr
  have hu1 := units1 hr
  exact (s_cons (s_asg (as_frz (as_comp (by decide) (ps_setLc (own := [("row", 6)]) (i := 2) rfl sc.nd rfl rfl (sw_true rfl rfl rfl (by decide +kernel)) (i_seq (d_var (pv 0))) (blkOk_by (own := [("row", 6)]) (N := ["rows", "amount", "some", "start", "paid", "rate", "row"]) (sc := defScope (top 32)) (by decide +kernel)) (fun _ _ _ _ _ => (g_name (pg_name (i := 6) sc.nd rfl (Or.inl rfl)))) (fun _ _ _ _ _ => (t_one (c_not (c_val (d_call ok_is_less (hr.mono (by decide : 1 ≤ 4)) rfl mg_is_less kp_is_less bd_is_less (a_cons (d_var (pv 1)) (a_cons (d_ix ix_D (d_r (d_var (pv 6))) (d_r d_int) (fun _ _ => rfl)) a_nil))))))) (fun _ _ _ _ _ => (d_var (pv 6)))))))
    (s_cons (s_asgG (ps_asg (d_ix ix_D (d_r (d_var (pv 2))) (d_r (d_un un_negD (d_r d_int))) (fun _ _ => rfl)) (g_tup rfl (gs_cons (g_name (pg_name (i := 3) sc.nd rfl (Or.inl rfl))) (gs_cons (g_name (pg_name (i := 4) sc.nd rfl (Or.inl rfl))) (gs_cons (g_name (pg_name (i := 5) sc.nd rfl (Or.inl rfl))) gs_nil))))))
    (s_one (s_ret (d_call ok_plus (hr.mono (by decide : 3 ≤ 4)) rfl mg_plus kp_plus bd_plus (a_cons (d_var (pv 4)) (a_cons (d_call ok_product (hr.mono (by decide : 3 ≤ 4)) rfl mg_product kp_product bd_product (a_cons (d_var (pv 5)) (a_cons (d_call ok_minus (hr.mono (by decide : 4 ≤ 4)) rfl mg_minus kp_minus bd_minus (a_cons (d_var (pv 1)) (a_cons (d_var (pv 3)) a_nil))) a_nil))) a_nil)))))))

theorem sc_all_payments : FnScope ["ladder", "amount", "holder"] ["ladder", "amount"] (defScope (top 33)) := ⟨rfl, rfl, rfl, by decide +kernel, rfl, by decide +kernel, by decide +kernel⟩
theorem cal_all_payments {P : Program} {w : World} {K : PySem.W.Frag} {mg : Str → Option Value} {base : Heap} (g : Glob K mg) (F : ∃ f fd, FnP K "all_payments" (top 33) f fd ∧ mg "all_payments" = some (.ref f)) (c_payment_at : CalP P w K mg base "payment_at" 5 2 ["rows", "amount"] F_payment_at) (c_found_bends : CalP P w K mg base "found_bends" 8 2 ["ladder", "holder"] F_found_bends) : CalP P w K mg base "all_payments" 9 2 ["ladder", "amount"] F_all_payments := by
  obtain ⟨f, fd, F, hm⟩ := F
  obtain ⟨f_payment_at, fd_payment_at, ok_payment_at, mg_payment_at, kp_payment_at, bd_payment_at⟩ := c_payment_at
  obtain ⟨f_found_bends, fd_found_bends, ok_found_bends, mg_found_bends, kp_found_bends, bd_found_bends⟩ := c_found_bends
  refine ⟨f, fd, ?_, hm, F.kp, F.bindsN fun _ _ _ _ _ _ us hl => match us, hl with | [_, _], _ => rfl⟩
  have sc := sc_all_payments
  refine fn_P (toFun F) sc rfl fun cdv A outer s H E hr => ?_
  have hu := units64 hr
  have hu5 := units65 hr
  have hu1 := units1 hr
  exact (s_one (s_ret (d_callTy ct_tuple rfl g.tuple_ (by decide +kernel) (r_cons (d_r (d_frz (l_comp (own := [("holder", 2)]) rfl sc.nd (i_rng rfl g.range_ (a_cons (d_ix ix_D (d_r (d_var (pv 0))) (d_r d_int) (fun _ _ => rfl)) a_nil)) (blkOk_by (own := [("holder", 2)]) (N := ["ladder", "amount", "holder"]) (sc := defScope (top 33)) (by decide +kernel)) (fun _ _ _ _ _ => (g_name (pg_name (i := 2) sc.nd rfl (Or.inl rfl)))) (fun _ _ _ _ _ => t_yes) (fun _ _ _ _ _ => (d_call ok_payment_at (hr.mono (by decide : 5 ≤ 8)) rfl mg_payment_at kp_payment_at bd_payment_at (a_cons (d_call ok_found_bends (hr.mono (by decide : 8 ≤ 8)) rfl mg_found_bends kp_found_bends bd_found_bends (a_cons (d_var (pv 0)) (a_cons (d_var (pv 2)) a_nil))) (a_cons (d_var (pv 1)) a_nil)))) (by decide)))) r_nil))))

theorem sc_pay : FnScope ["ladder", "amount"] ["ladder", "amount"] (defScope (top 35)) := ⟨rfl, rfl, rfl, by decide +kernel, rfl, by decide +kernel, by decide +kernel⟩
theorem cal_pay {P : Program} {w : World} {K : PySem.W.Frag} {mg : Str → Option Value} {base : Heap} (g : Glob K mg) (F : ∃ f fd, FnP K "pay" (top 35) f fd ∧ mg "pay" = some (.ref f)) (c_check_ladder : CalP P w K mg base "check_ladder" 5 1 ["value"] F_check_ladder) (c_check_amount : CalP P w K mg base "check_amount" 3 1 ["value"] F_check_amount) (c_all_payments : CalP P w K mg base "all_payments" 9 2 ["ladder", "amount"] F_all_payments) : CalP P w K mg base "pay" 10 2 ["ladder", "amount"] F_pay := by
  obtain ⟨f, fd, F, hm⟩ := F
  obtain ⟨f_check_ladder, fd_check_ladder, ok_check_ladder, mg_check_ladder, kp_check_ladder, bd_check_ladder⟩ := c_check_ladder
  obtain ⟨f_check_amount, fd_check_amount, ok_check_amount, mg_check_amount, kp_check_amount, bd_check_amount⟩ := c_check_amount
  obtain ⟨f_all_payments, fd_all_payments, ok_all_payments, mg_all_payments, kp_all_payments, bd_all_payments⟩ := c_all_payments
  refine ⟨f, fd, ?_, hm, F.kp, F.bindsN fun _ _ _ _ _ _ us hl => match us, hl with | [_, _], _ => rfl⟩
  have sc := sc_pay
  refine fn_P (toFun F) sc rfl fun cdv A outer s H E hr => ?_
  have hu := units64 hr
  have hu5 := units65 hr
  have hu1 := units1 hr
  exact (s_cons (s_expr (d_call ok_check_ladder (hr.mono (by decide : 5 ≤ 9)) rfl mg_check_ladder kp_check_ladder bd_check_ladder (a_cons (d_var (pv 0)) a_nil)))
    (s_cons (s_expr (d_call ok_check_amount (hr.mono (by decide : 3 ≤ 9)) rfl mg_check_amount kp_check_amount bd_check_amount (a_cons (d_var (pv 1)) a_nil)))
    (s_one (s_ret (d_call ok_all_payments (hr.mono (by decide : 9 ≤ 9)) rfl mg_all_payments kp_all_payments bd_all_payments (a_cons (d_var (pv 0)) (a_cons (d_var (pv 1)) a_nil)))))))

theorem sc_pay_rungs : FnScope ["ladder", "amount", "found", "left", "number", "length", "rates", "part", "holder", "rate", "rung", "row"] ["ladder", "amount"] (defScope (top 36)) := ⟨rfl, rfl, rfl, by decide +kernel, rfl, by decide +kernel, by decide +kernel⟩
theorem cal_pay_rungs {P : Program} {w : World} {K : PySem.W.Frag} {mg : Str → Option Value} {base : Heap} (g : Glob K mg) (F : ∃ f fd, FnP K "pay_rungs" (top 36) f fd ∧ mg "pay_rungs" = some (.ref f)) (gZERO : HasZero K mg) (c_check_ladder : CalP P w K mg base "check_ladder" 5 1 ["value"] F_check_ladder) (c_check_amount : CalP P w K mg base "check_amount" 3 1 ["value"] F_check_amount) (c_pieces_of : CalP P w K mg base "pieces_of" 7 1 ["ladder"] F_pieces_of) (c_minus : CalP P w K mg base "minus" 4 2 ["one", "other"] F_minus) (c_lesser : CalP P w K mg base "lesser" 2 2 ["one", "other"] F_lesser) (c_plus : CalP P w K mg base "plus" 3 2 ["one", "other"] F_plus) (c_product : CalP P w K mg base "product" 3 2 ["one", "other"] F_product) : CalP P w K mg base "pay_rungs" 8 2 ["ladder", "amount"] F_pay_rungs := by
  obtain ⟨f, fd, F, hm⟩ := F
  obtain ⟨f_check_ladder, fd_check_ladder, ok_check_ladder, mg_check_ladder, kp_check_ladder, bd_check_ladder⟩ := c_check_ladder
  obtain ⟨f_check_amount, fd_check_amount, ok_check_amount, mg_check_amount, kp_check_amount, bd_check_amount⟩ := c_check_amount
  obtain ⟨f_pieces_of, fd_pieces_of, ok_pieces_of, mg_pieces_of, kp_pieces_of, bd_pieces_of⟩ := c_pieces_of
  obtain ⟨f_minus, fd_minus, ok_minus, mg_minus, kp_minus, bd_minus⟩ := c_minus
  obtain ⟨f_lesser, fd_lesser, ok_lesser, mg_lesser, kp_lesser, bd_lesser⟩ := c_lesser
  obtain ⟨f_plus, fd_plus, ok_plus, mg_plus, kp_plus, bd_plus⟩ := c_plus
  obtain ⟨f_product, fd_product, ok_product, mg_product, kp_product, bd_product⟩ := c_product
  refine ⟨f, fd, ?_, hm, F.kp, F.bindsN fun _ _ _ _ _ _ us hl => match us, hl with | [_, _], _ => rfl⟩
  have sc := sc_pay_rungs
  refine fn_P (toFun F) sc rfl fun cdv A outer s H E hr => ?_
  have hu := units64 hr
  have hu5 := units65 hr
  have hu1 := units1 hr
  exact (s_cons (s_expr (d_call ok_check_ladder (hr.mono (by decide : 5 ≤ 7)) rfl mg_check_ladder kp_check_ladder bd_check_ladder (a_cons (d_var (pv 0)) a_nil)))
    (s_cons (s_expr (d_call ok_check_amount (hr.mono (by decide : 3 ≤ 7)) rfl mg_check_amount kp_check_amount bd_check_amount (a_cons (d_var (pv 1)) a_nil)))
    (s_cons (s_ow2 (by decide) (ps_setLc (own := [("rung", 10)]) (i := 2) rfl sc.nd rfl rfl (sw_true rfl rfl rfl (by decide +kernel)) (i_seq (d_ix ix_D (d_r (d_var (pv 0))) (d_r d_int) (fun _ _ => rfl))) (blkOk_by (own := [("rung", 10)]) (N := ["ladder", "amount", "found", "left", "number", "length", "rates", "part", "holder", "rate", "rung", "row"]) (sc := defScope (top 36)) (by decide +kernel)) (fun _ _ _ _ _ => (g_name (pg_name (i := 10) sc.nd rfl (Or.inl rfl)))) (fun _ _ _ _ _ => t_yes) (fun _ _ _ _ _ => (l_bin op_mulL (d_r (d_frz (l_lst (a_cons (d_gtup (is := [0, 1]) rfl gZERO) a_nil)))) (d_r (d_ix ix_D (d_r (d_var (pv 0))) (d_r d_int) (fun _ _ => rfl)))))))
    (s_cons (s_asg (ps_set (i := 3) sc.nd rfl (Or.inl rfl) (d_var (pv 1))))
    (s_cons (s_for PassesOwn.never rfl (i_seq (d_call ok_pieces_of (hr.mono (by decide : 7 ≤ 7)) rfl mg_pieces_of kp_pieces_of bd_pieces_of (a_cons (d_var (pv 0)) a_nil))) (g_tup rfl (gs_cons (g_name (pg_name (i := 4) sc.nd rfl (Or.inl rfl))) (gs_cons (g_name (pg_name (i := 5) sc.nd rfl (Or.inl rfl))) (gs_cons (g_name (pg_name (i := 6) sc.nd rfl (Or.inl rfl))) gs_nil)))) (s_cons (s_asg (ps_set (i := 7) sc.nd rfl (Or.inl rfl) (d_if (c_cmp op_isQ (d_r (d_var (pv 5))) (d_r d_non) (nomark _)) (d_var (pv 3)) (d_call ok_lesser (hr.mono (by decide : 2 ≤ 7)) rfl mg_lesser kp_lesser bd_lesser (a_cons (d_var (pv 3)) (a_cons (d_var (pv 5)) a_nil))))))
    (s_cons (s_asg (ps_set (i := 3) sc.nd rfl (Or.inl rfl) (d_call ok_minus (hr.mono (by decide : 4 ≤ 7)) rfl mg_minus kp_minus bd_minus (a_cons (d_var (pv 3)) (a_cons (d_var (pv 7)) a_nil)))))
    (s_one (s_for PassesOwn.never rfl (i_enum rfl g.enumerate_ (a_cons (d_var (pv 6)) a_nil)) (g_tup rfl (gs_cons (g_name (pg_name (i := 8) sc.nd rfl (Or.inl rfl))) (gs_cons (g_name (pg_name (i := 9) sc.nd rfl (Or.inl rfl))) gs_nil))) (s_one (s_set3 (ps_asg (d_call ok_plus (hr.mono (by decide : 3 ≤ 7)) rfl mg_plus kp_plus bd_plus (a_cons (d_ix2 (pv 2) (d_var (pv 4)) (fun _ _ => rfl) (d_var (pv 8)) (fun _ _ => rfl)) (a_cons (d_call ok_product (hr.mono (by decide : 3 ≤ 7)) rfl mg_product kp_product bd_product (a_cons (d_var (pv 7)) (a_cons (d_var (pv 9)) a_nil))) a_nil))) (pg_sub (pe_ix ix_list (pv 2) (d_var (pv 4)) (fun _ _ => rfl)) (d_var (pv 8)) set_list)))))))))
    (s_one (s_frz2 2 (s_ret (d_callTy ct_tuple rfl g.tuple_ (by decide +kernel) (r_cons (d_r (d_frz (l_comp (own := [("row", 11)]) rfl sc.nd (i_seq (d_var (pv 2))) (blkOk_by (own := [("row", 11)]) (N := ["ladder", "amount", "found", "left", "number", "length", "rates", "part", "holder", "rate", "rung", "row"]) (sc := defScope (top 36)) (by decide +kernel)) (fun _ _ _ _ _ => (g_name (pg_name (i := 11) sc.nd rfl (Or.inl rfl)))) (fun _ _ _ _ _ => t_yes) (fun _ _ _ _ _ => (d_callTy ct_tuple rfl g.tuple_ (by decide +kernel) (r_cons (d_r (d_var (pv 11))) r_nil))) (by decide)))) r_nil))))))))))

theorem sc__law_town : FnScope ["script"] ["script"] (defScope (top 38)) := ⟨rfl, rfl, rfl, by decide +kernel, rfl, by decide +kernel, by decide +kernel⟩
theorem cal__law_town {P : Program} {w : World} {K : PySem.W.Frag} {mg : Str → Option Value} {base : Heap} (g : Glob K mg) (F : ∃ f fd, FnP K "_law_town" (top 38) f fd ∧ mg "_law_town" = some (.ref f))  : CalL P w K mg base "_law_town" 1 1 ["script"] F__law_town := by
  obtain ⟨f, fd, F, hm⟩ := F
  refine ⟨f, fd, ?_, hm, F.kp, F.bindsN fun _ _ _ _ _ _ us hl => match us, hl with | [_], _ => rfl⟩
  have sc := sc__law_town
  refine fn_L (toFun F) sc rfl fun cdv A outer s H E hr => ?_
  have hu := units64 hr
  have hu5 := units65 hr
  have hu1 := units1 hr
  exact (s_one (s_retL (l_bin op_addL (d_r (d_frz (l_lst (a_cons d_int a_nil)))) (d_r (d_frz (l_callTy ct_list rfl g.list_ (by decide +kernel) (r_cons (d_r (d_var (pv 0))) r_nil)))))))

theorem sc__law_draw : FnScope ["script", "town", "limit", "at", "left", "number"] ["script", "town", "limit"] (defScope (top 39)) := ⟨rfl, rfl, rfl, by decide +kernel, rfl, by decide +kernel, by decide +kernel⟩
theorem cal__law_draw {P : Program} {w : World} {K : PySem.W.Frag} {mg : Str → Option Value} {base : Heap} (g : Glob K mg) (F : ∃ f fd, FnP K "_law_draw" (top 39) f fd ∧ mg "_law_draw" = some (.ref f))  : CalT P w K mg base "_law_draw" 1 1 ["script", "town", "limit"] F__law_draw := by
  obtain ⟨f, fd, F, hm⟩ := F
  refine ⟨f, fd, ?_, hm, F.kp, F.bindsN fun _ _ _ _ _ _ us hl => match us, hl with | [_, _, _], _ => rfl⟩
  have sc := sc__law_draw
  refine fn_T (toFun F) sc rfl fun cdv A outer s H E hr => ?_
  have hu := units64 hr
  have hu5 := units65 hr
  have hu1 := units1 hr
  exact (s_cons (s_setT (ps_asg (d_bin op_addD (d_r (d_ixT (pv 1) d_int (fun _ _ => rfl))) (d_r d_int)) (pg_sub (pv 1) d_int set_list)))
    (s_cons (s_if (c_cmp (op_eqQ hu) (d_r (d_var (pv 0))) (d_r (d_frz (l_lst a_nil))) (nomark _)) (s_one (s_ret (d_bin op_modD (d_r (d_bin op_fdivD (d_r (d_bin op_mulD (d_r (d_bin op_mulD (d_r (d_ixT (pv 1) d_int (fun _ _ => rfl))) (d_r (d_ixT (pv 1) d_int (fun _ _ => rfl))))) (d_r d_int))) (d_r d_int))) (d_r (d_var (pv 2)))))) s_nil)
    (s_cons (s_asg (ps_set (i := 3) sc.nd rfl (Or.inl rfl) (d_bin op_modD (d_r (d_ixT (pv 1) d_int (fun _ _ => rfl))) (d_r (d_callB cb_len rfl g.len_ (by decide +kernel) (r_cons (d_r (d_var (pv 0))) r_nil))))))
    (s_cons (s_asg (ps_set (i := 4) sc.nd rfl (Or.inl rfl) (d_ixT (pv 1) (d_bin op_addD (d_r d_int) (d_r (d_var (pv 3)))) (fun _ _ => rfl))))
    (s_cons (s_if (PW.pt (c_and (c_cmp op_geD (d_r (d_ix ix_D (d_r (d_var (pv 0))) (d_r (d_var (pv 3))) (fun _ _ => rfl))) (d_r (d_bin op_powD (d_r d_int) (d_r d_int))) (nomark _)) (c_and1 (c_cmp op_gtD (d_r (d_var (pv 4))) (d_r d_int) (nomark _))))) (s_cons (s_setT (ps_asg (d_bin op_fdivD (d_r (d_var (pv 4))) (d_r (d_var (pv 2)))) (pg_sub (pv 1) (d_bin op_addD (d_r d_int) (d_r (d_var (pv 3)))) set_list)))
    (s_one (s_ret (d_bin op_modD (d_r (d_var (pv 4))) (d_r (d_var (pv 2))))))) s_nil)
    (s_cons (s_asg (ps_set (i := 5) sc.nd rfl (Or.inl rfl) (d_bin op_modD (d_r (d_bin op_addD (d_r (d_ix ix_D (d_r (d_var (pv 0))) (d_r (d_var (pv 3))) (fun _ _ => rfl))) (d_r (d_bin op_mulD (d_r d_int) (d_r (d_ixT (pv 1) d_int (fun _ _ => rfl))))))) (d_r d_int))))
    (s_cons (s_asg (ps_set (i := 5) sc.nd rfl (Or.inl rfl) (d_bin op_modD (d_r (d_bin op_powD (d_r (d_var (pv 5))) (d_r d_int))) (d_r d_int))))
    (s_one (s_ret (d_bin op_modD (d_r (d_bin op_fdivD (d_r (d_bin op_modD (d_r (d_bin op_addD (d_r (d_bin op_mulD (d_r (d_bin op_fdivD (d_r (d_var (pv 5))) (d_r d_int))) (d_r d_int))) (d_r (d_var (pv 5))))) (d_r d_int))) (d_r d_int))) (d_r (d_var (pv 2)))))))))))))

theorem sc__law_pick : FnScope ["script", "town", "choices"] ["script", "town", "choices"] (defScope (top 40)) := ⟨rfl, rfl, rfl, by decide +kernel, rfl, by decide +kernel, by decide +kernel⟩
theorem cal__law_pick {P : Program} {w : World} {K : PySem.W.Frag} {mg : Str → Option Value} {base : Heap} (g : Glob K mg) (F : ∃ f fd, FnP K "_law_pick" (top 40) f fd ∧ mg "_law_pick" = some (.ref f)) (c__law_draw : CalT P w K mg base "_law_draw" 1 1 ["script", "town", "limit"] F__law_draw) : CalT P w K mg base "_law_pick" 2 1 ["script", "town", "choices"] F__law_pick := by
  obtain ⟨f, fd, F, hm⟩ := F
  obtain ⟨f__law_draw, fd__law_draw, ok__law_draw, mg__law_draw, kp__law_draw, bd__law_draw⟩ := c__law_draw
  refine ⟨f, fd, ?_, hm, F.kp, F.bindsN fun _ _ _ _ _ _ us hl => match us, hl with | [_, _, _], _ => rfl⟩
  have sc := sc__law_pick
  refine fn_T (toFun F) sc rfl fun cdv A outer s H E hr => ?_
  have hu := units64 hr
  have hu5 := units65 hr
  have hu1 := units1 hr
  exact (s_one (s_ret (d_ix ix_D (d_r (d_var (pv 2))) (d_r (d_callT ok__law_draw (hr.mono (by decide : 1 ≤ 1)) rfl mg__law_draw kp__law_draw bd__law_draw (d_var (pv 0)) (pv 1) (a_cons (d_callB cb_len rfl g.len_ (by decide +kernel) (r_cons (d_r (d_var (pv 2))) r_nil)) a_nil))) (fun _ _ => rfl))))

theorem sc__law_frac : FnScope ["top", "bottom", "one", "other"] ["top", "bottom"] (defScope (top 41)) := ⟨rfl, rfl, rfl, by decide +kernel, rfl, by decide +kernel, by decide +kernel⟩
theorem cal__law_frac {P : Program} {w : World} {K : PySem.W.Frag} {mg : Str → Option Value} {base : Heap} (g : Glob K mg) (F : ∃ f fd, FnP K "_law_frac" (top 41) f fd ∧ mg "_law_frac" = some (.ref f))  : CalP P w K mg base "_law_frac" 1 2 ["top", "bottom"] F__law_frac := by
  obtain ⟨f, fd, F, hm⟩ := F
  refine ⟨f, fd, ?_, hm, F.kp, F.bindsN fun _ _ _ _ _ _ us hl => match us, hl with | [_, _], _ => rfl⟩
  have sc := sc__law_frac
  refine fn_P (toFun F) sc rfl fun cdv A outer s H E hr => ?_
  have hu := units64 hr
  have hu5 := units65 hr
  have hu1 := units1 hr
  exact (s_cons (s_par2 (ps_par (i := 2) (j := 3) rfl sc.nd rfl rfl (by decide) rfl rfl (m_d (d_var (pv 1)) (m_d (d_callB cb_abs rfl g.abs_ (by decide +kernel) (r_cons (d_r (d_var (pv 0))) r_nil)) m_nil)) rfl))
    (s_cons (s_while PassesOwn.never (c_cmp op_gtD (d_r (d_var (pv 3))) (d_r d_int) (nomark _)) (s_one (s_par2 (ps_par (i := 2) (j := 3) rfl sc.nd rfl rfl (by decide) rfl rfl (m_d (d_var (pv 3)) (m_d (d_bin op_modD (d_r (d_var (pv 2))) (d_r (d_var (pv 3)))) m_nil)) rfl))))
    (s_one (s_ret (d_tup (a_cons (d_bin op_fdivD (d_r (d_var (pv 0))) (d_r (d_var (pv 2)))) (a_cons (d_bin op_fdivD (d_r (d_var (pv 1))) (d_r (d_var (pv 2)))) a_nil)))))))

theorem sc__law_plus : FnScope ["one", "other"] ["one", "other"] (defScope (top 42)) := ⟨rfl, rfl, rfl, by decide +kernel, rfl, by decide +kernel, by decide +kernel⟩
theorem cal__law_plus {P : Program} {w : World} {K : PySem.W.Frag} {mg : Str → Option Value} {base : Heap} (g : Glob K mg) (F : ∃ f fd, FnP K "_law_plus" (top 42) f fd ∧ mg "_law_plus" = some (.ref f)) (c__law_frac : CalP P w K mg base "_law_frac" 1 2 ["top", "bottom"] F__law_frac) : CalP P w K mg base "_law_plus" 2 2 ["one", "other"] F__law_plus := by
  obtain ⟨f, fd, F, hm⟩ := F
  obtain ⟨f__law_frac, fd__law_frac, ok__law_frac, mg__law_frac, kp__law_frac, bd__law_frac⟩ := c__law_frac
  refine ⟨f, fd, ?_, hm, F.kp, F.bindsN fun _ _ _ _ _ _ us hl => match us, hl with | [_, _], _ => rfl⟩
  have sc := sc__law_plus
  refine fn_P (toFun F) sc rfl fun cdv A outer s H E hr => ?_
  have hu := units64 hr
  have hu5 := units65 hr
  have hu1 := units1 hr
  exact (s_one (s_ret (d_call ok__law_frac (hr.mono (by decide : 1 ≤ 1)) rfl mg__law_frac kp__law_frac bd__law_frac (a_cons (d_bin op_addD (d_r (d_bin op_mulD (d_r (d_ix ix_D (d_r (d_var (pv 0))) (d_r d_int) (fun _ _ => rfl))) (d_r (d_ix ix_D (d_r (d_var (pv 1))) (d_r d_int) (fun _ _ => rfl))))) (d_r (d_bin op_mulD (d_r (d_ix ix_D (d_r (d_var (pv 1))) (d_r d_int) (fun _ _ => rfl))) (d_r (d_ix ix_D (d_r (d_var (pv 0))) (d_r d_int) (fun _ _ => rfl)))))) (a_cons (d_bin op_mulD (d_r (d_ix ix_D (d_r (d_var (pv 0))) (d_r d_int) (fun _ _ => rfl))) (d_r (d_ix ix_D (d_r (d_var (pv 1))) (d_r d_int) (fun _ _ => rfl)))) a_nil)))))

theorem sc__law_less : FnScope ["one", "other"] ["one", "other"] (defScope (top 43)) := ⟨rfl, rfl, rfl, by decide +kernel, rfl, by decide +kernel, by decide +kernel⟩
theorem cal__law_less {P : Program} {w : World} {K : PySem.W.Frag} {mg : Str → Option Value} {base : Heap} (g : Glob K mg) (F : ∃ f fd, FnP K "_law_less" (top 43) f fd ∧ mg "_law_less" = some (.ref f)) (c__law_frac : CalP P w K mg base "_law_frac" 1 2 ["top", "bottom"] F__law_frac) : CalP P w K mg base "_law_less" 2 2 ["one", "other"] F__law_less := by
  obtain ⟨f, fd, F, hm⟩ := F
  obtain ⟨f__law_frac, fd__law_frac, ok__law_frac, mg__law_frac, kp__law_frac, bd__law_frac⟩ := c__law_frac
  refine ⟨f, fd, ?_, hm, F.kp, F.bindsN fun _ _ _ _ _ _ us hl => match us, hl with | [_, _], _ => rfl⟩
  have sc := sc__law_less
  refine fn_P (toFun F) sc rfl fun cdv A outer s H E hr => ?_
  have hu := units64 hr
  have hu5 := units65 hr
  have hu1 := units1 hr
  exact (s_one (s_ret (d_call ok__law_frac (hr.mono (by decide : 1 ≤ 1)) rfl mg__law_frac kp__law_frac bd__law_frac (a_cons (d_bin op_subD (d_r (d_bin op_mulD (d_r (d_ix ix_D (d_r (d_var (pv 0))) (d_r d_int) (fun _ _ => rfl))) (d_r (d_ix ix_D (d_r (d_var (pv 1))) (d_r d_int) (fun _ _ => rfl))))) (d_r (d_bin op_mulD (d_r (d_ix ix_D (d_r (d_var (pv 1))) (d_r d_int) (fun _ _ => rfl))) (d_r (d_ix ix_D (d_r (d_var (pv 0))) (d_r d_int) (fun _ _ => rfl)))))) (a_cons (d_bin op_mulD (d_r (d_ix ix_D (d_r (d_var (pv 0))) (d_r d_int) (fun _ _ => rfl))) (d_r (d_ix ix_D (d_r (d_var (pv 1))) (d_r d_int) (fun _ _ => rfl)))) a_nil)))))

theorem sc__law_times : FnScope ["one", "other"] ["one", "other"] (defScope (top 44)) := ⟨rfl, rfl, rfl, by decide +kernel, rfl, by decide +kernel, by decide +kernel⟩
theorem cal__law_times {P : Program} {w : World} {K : PySem.W.Frag} {mg : Str → Option Value} {base : Heap} (g : Glob K mg) (F : ∃ f fd, FnP K "_law_times" (top 44) f fd ∧ mg "_law_times" = some (.ref f)) (c__law_frac : CalP P w K mg base "_law_frac" 1 2 ["top", "bottom"] F__law_frac) : CalP P w K mg base "_law_times" 2 2 ["one", "other"] F__law_times := by
  obtain ⟨f, fd, F, hm⟩ := F
  obtain ⟨f__law_frac, fd__law_frac, ok__law_frac, mg__law_frac, kp__law_frac, bd__law_frac⟩ := c__law_frac
  refine ⟨f, fd, ?_, hm, F.kp, F.bindsN fun _ _ _ _ _ _ us hl => match us, hl with | [_, _], _ => rfl⟩
  have sc := sc__law_times
  refine fn_P (toFun F) sc rfl fun cdv A outer s H E hr => ?_
  have hu := units64 hr
  have hu5 := units65 hr
  have hu1 := units1 hr
  exact (s_one (s_ret (d_call ok__law_frac (hr.mono (by decide : 1 ≤ 1)) rfl mg__law_frac kp__law_frac bd__law_frac (a_cons (d_bin op_mulD (d_r (d_ix ix_D (d_r (d_var (pv 0))) (d_r d_int) (fun _ _ => rfl))) (d_r (d_ix ix_D (d_r (d_var (pv 1))) (d_r d_int) (fun _ _ => rfl)))) (a_cons (d_bin op_mulD (d_r (d_ix ix_D (d_r (d_var (pv 0))) (d_r d_int) (fun _ _ => rfl))) (d_r (d_ix ix_D (d_r (d_var (pv 1))) (d_r d_int) (fun _ _ => rfl)))) a_nil)))))

theorem sc__law_over : FnScope ["one", "other"] ["one", "other"] (defScope (top 45)) := ⟨rfl, rfl, rfl, by decide +kernel, rfl, by decide +kernel, by decide +kernel⟩
theorem cal__law_over {P : Program} {w : World} {K : PySem.W.Frag} {mg : Str → Option Value} {base : Heap} (g : Glob K mg) (F : ∃ f fd, FnP K "_law_over" (top 45) f fd ∧ mg "_law_over" = some (.ref f)) (c__law_frac : CalP P w K mg base "_law_frac" 1 2 ["top", "bottom"] F__law_frac) : CalP P w K mg base "_law_over" 2 2 ["one", "other"] F__law_over := by
  obtain ⟨f, fd, F, hm⟩ := F
  obtain ⟨f__law_frac, fd__law_frac, ok__law_frac, mg__law_frac, kp__law_frac, bd__law_frac⟩ := c__law_frac
  refine ⟨f, fd, ?_, hm, F.kp, F.bindsN fun _ _ _ _ _ _ us hl => match us, hl with | [_, _], _ => rfl⟩
  have sc := sc__law_over
  refine fn_P (toFun F) sc rfl fun cdv A outer s H E hr => ?_
  have hu := units64 hr
  have hu5 := units65 hr
  have hu1 := units1 hr
  exact (s_one (s_ret (d_call ok__law_frac (hr.mono (by decide : 1 ≤ 1)) rfl mg__law_frac kp__law_frac bd__law_frac (a_cons (d_bin op_mulD (d_r (d_ix ix_D (d_r (d_var (pv 0))) (d_r d_int) (fun _ _ => rfl))) (d_r (d_ix ix_D (d_r (d_var (pv 1))) (d_r d_int) (fun _ _ => rfl)))) (a_cons (d_bin op_mulD (d_r (d_ix ix_D (d_r (d_var (pv 0))) (d_r d_int) (fun _ _ => rfl))) (d_r (d_ix ix_D (d_r (d_var (pv 1))) (d_r d_int) (fun _ _ => rfl)))) a_nil)))))

theorem sc__law_below : FnScope ["one", "other"] ["one", "other"] (defScope (top 46)) := ⟨rfl, rfl, rfl, by decide +kernel, rfl, by decide +kernel, by decide +kernel⟩
theorem cal__law_below {P : Program} {w : World} {K : PySem.W.Frag} {mg : Str → Option Value} {base : Heap} (g : Glob K mg) (F : ∃ f fd, FnP K "_law_below" (top 46) f fd ∧ mg "_law_below" = some (.ref f))  : CalP P w K mg base "_law_below" 1 2 ["one", "other"] F__law_below := by
  obtain ⟨f, fd, F, hm⟩ := F
  refine ⟨f, fd, ?_, hm, F.kp, F.bindsN fun _ _ _ _ _ _ us hl => match us, hl with | [_, _], _ => rfl⟩
  have sc := sc__law_below
  refine fn_P (toFun F) sc rfl fun cdv A outer s H E hr => ?_
  have hu := units64 hr
  have hu5 := units65 hr
  have hu1 := units1 hr
  exact (s_one (s_ret (d_cmp op_ltD (d_r (d_bin op_mulD (d_r (d_ix ix_D (d_r (d_var (pv 0))) (d_r d_int) (fun _ _ => rfl))) (d_r (d_ix ix_D (d_r (d_var (pv 1))) (d_r d_int) (fun _ _ => rfl))))) (d_r (d_bin op_mulD (d_r (d_ix ix_D (d_r (d_var (pv 1))) (d_r d_int) (fun _ _ => rfl))) (d_r (d_ix ix_D (d_r (d_var (pv 0))) (d_r d_int) (fun _ _ => rfl))))) (nomark _))))

theorem sc__law_pairs : FnScope ["script", "town", "holders", "numbers", "some", "holder"] ["script", "town", "holders", "numbers"] (defScope (top 47)) := ⟨rfl, rfl, rfl, by decide +kernel, rfl, by decide +kernel, by decide +kernel⟩
theorem cal__law_pairs {P : Program} {w : World} {K : PySem.W.Frag} {mg : Str → Option Value} {base : Heap} (g : Glob K mg) (F : ∃ f fd, FnP K "_law_pairs" (top 47) f fd ∧ mg "_law_pairs" = some (.ref f)) (c__law_draw : CalT P w K mg base "_law_draw" 1 1 ["script", "town", "limit"] F__law_draw) (c__law_pick : CalT P w K mg base "_law_pick" 2 1 ["script", "town", "choices"] F__law_pick) : CalT P w K mg base "_law_pairs" 3 2 ["script", "town", "holders", "numbers"] F__law_pairs := by
  obtain ⟨f, fd, F, hm⟩ := F
  obtain ⟨f__law_draw, fd__law_draw, ok__law_draw, mg__law_draw, kp__law_draw, bd__law_draw⟩ := c__law_draw
  obtain ⟨f__law_pick, fd__law_pick, ok__law_pick, mg__law_pick, kp__law_pick, bd__law_pick⟩ := c__law_pick
  refine ⟨f, fd, ?_, hm, F.kp, F.bindsN fun _ _ _ _ _ _ us hl => match us, hl with | [_, _, _, _], _ => rfl⟩
  have sc := sc__law_pairs
  refine fn_T (toFun F) sc rfl fun cdv A outer s H E hr => ?_
  have hu := units64 hr
  have hu5 := units65 hr
  have hu1 := units1 hr
  exact (s_cons (s_asg (as_frz (as_comp (by decide) (ps_setLc (own := [("holder", 5)]) (i := 4) rfl sc.nd rfl rfl (sw_true rfl rfl rfl (by decide +kernel)) (i_rng rfl g.range_ (a_cons (d_var (pv 2)) a_nil)) (blkOk_by (own := [("holder", 5)]) (N := ["script", "town", "holders", "numbers", "some", "holder"]) (sc := defScope (top 47)) (by decide +kernel)) (fun _ _ _ _ _ => (g_name (pg_name (i := 5) sc.nd rfl (Or.inl rfl)))) (fun _ _ _ _ _ => (t_one (c_cmp (op_eqQ hu) (d_r (d_callT ok__law_draw (hr.mono (by decide : 1 ≤ 2)) rfl mg__law_draw kp__law_draw bd__law_draw (d_var (pv 0)) (pv 1) (a_cons d_int a_nil))) (d_r d_int) (nomark _)))) (fun _ _ _ _ _ => (d_var (pv 5)))))))
    (s_cons (s_if (c_cmp (op_eqQ hu) (d_r (d_var (pv 4))) (d_r (d_frz (l_lst a_nil))) (nomark _)) (s_one (s_asg (ps_set (i := 4) sc.nd rfl (Or.inl rfl) (d_frz (l_lst (a_cons (d_callT ok__law_draw (hr.mono (by decide : 1 ≤ 2)) rfl mg__law_draw kp__law_draw bd__law_draw (d_var (pv 0)) (pv 1) (a_cons (d_var (pv 2)) a_nil)) a_nil)))))) s_nil)
    (s_one (s_ret (d_callTy ct_tuple rfl g.tuple_ (by decide +kernel) (r_cons (d_r (d_frz (l_comp (own := [("holder", 5)]) rfl sc.nd (i_seq (d_var (pv 4))) (blkOk_by (own := [("holder", 5)]) (N := ["script", "town", "holders", "numbers", "some", "holder"]) (sc := defScope (top 47)) (by decide +kernel)) (fun _ _ _ _ _ => (g_name (pg_name (i := 5) sc.nd rfl (Or.inl rfl)))) (fun _ _ _ _ _ => t_yes) (fun _ _ _ _ _ => (d_tup (a_cons (d_var (pv 5)) (a_cons (d_callT ok__law_pick (hr.mono (by decide : 2 ≤ 2)) rfl mg__law_pick kp__law_pick bd__law_pick (d_var (pv 0)) (pv 1) (a_cons (d_var (pv 3)) a_nil)) a_nil)))) (by decide)))) r_nil))))))

theorem sc__law_rung : FnScope ["script", "town", "holders", "kind", "weights", "free", "caps", "holder", "weight"] ["script", "town", "holders", "kind"] (defScope (top 48)) := ⟨rfl, rfl, rfl, by decide +kernel, rfl, by decide +kernel, by decide +kernel⟩
theorem cal__law_rung {P : Program} {w : World} {K : PySem.W.Frag} {mg : Str → Option Value} {base : Heap} (g : Glob K mg) (F : ∃ f fd, FnP K "_law_rung" (top 48) f fd ∧ mg "_law_rung" = some (.ref f)) (c__law_pairs : CalT P w K mg base "_law_pairs" 3 2 ["script", "town", "holders", "numbers"] F__law_pairs) (c__law_pick : CalT P w K mg base "_law_pick" 2 1 ["script", "town", "choices"] F__law_pick) (c__law_draw : CalT P w K mg base "_law_draw" 1 1 ["script", "town", "limit"] F__law_draw) : CalT P w K mg base "_law_rung" 4 2 ["script", "town", "holders", "kind"] F__law_rung := by
  obtain ⟨f, fd, F, hm⟩ := F
  obtain ⟨f__law_pairs, fd__law_pairs, ok__law_pairs, mg__law_pairs, kp__law_pairs, bd__law_pairs⟩ := c__law_pairs
  obtain ⟨f__law_pick, fd__law_pick, ok__law_pick, mg__law_pick, kp__law_pick, bd__law_pick⟩ := c__law_pick
  obtain ⟨f__law_draw, fd__law_draw, ok__law_draw, mg__law_draw, kp__law_draw, bd__law_draw⟩ := c__law_draw
  refine ⟨f, fd, ?_, hm, F.kp, F.bindsN fun _ _ _ _ _ _ us hl => match us, hl with | [_, _, _, _], _ => rfl⟩
  have sc := sc__law_rung
  refine fn_T (toFun F) sc rfl fun cdv A outer s H E hr => ?_
  have hu := units64 hr
  have hu5 := units65 hr
  have hu1 := units1 hr
  exact (s_cons (s_if (c_cmp (op_eqQ hu) (d_r (d_var (pv 3))) (d_r d_int) (nomark _)) (s_one (s_ret (d_tup (a_cons d_str (a_cons (d_callT ok__law_pairs (hr.mono (by decide : 3 ≤ 3)) rfl mg__law_pairs kp__law_pairs bd__law_pairs (d_var (pv 0)) (pv 1) (a_cons (d_var (pv 2)) (a_cons (d_frz (l_lst (a_cons d_int (a_cons d_int (a_cons d_int (a_cons d_int (a_cons d_int (a_cons d_int (a_cons d_int (a_cons d_int a_nil)))))))))) a_nil))) a_nil))))) s_nil)
    (s_cons (s_asg (ps_set (i := 4) sc.nd rfl (Or.inl rfl) (d_callT ok__law_pairs (hr.mono (by decide : 3 ≤ 3)) rfl mg__law_pairs kp__law_pairs bd__law_pairs (d_var (pv 0)) (pv 1) (a_cons (d_var (pv 2)) (a_cons (d_frz (l_lst (a_cons d_int (a_cons d_int (a_cons d_int (a_cons d_int (a_cons d_int (a_cons d_int a_nil)))))))) a_nil)))))
    (s_cons (s_asg (ps_set (i := 5) sc.nd rfl (Or.inl rfl) (d_if (c_cmp (op_eqQ hu) (d_r (d_var (pv 3))) (d_r d_int) (nomark _)) (d_ix ix_D (d_r (d_callT ok__law_pick (hr.mono (by decide : 2 ≤ 3)) rfl mg__law_pick kp__law_pick bd__law_pick (d_var (pv 0)) (pv 1) (a_cons (d_var (pv 4)) a_nil))) (d_r d_int) (fun _ _ => rfl)) (d_un un_negD (d_r d_int)))))
    (s_cons (s_own (ps_set (i := 6) sc.nd rfl (Or.inl rfl) (l_lst a_nil)))
    (s_cons (s_for PassesOwn.never rfl (i_seq (d_var (pv 4))) (g_tup rfl (gs_cons (g_name (pg_name (i := 7) sc.nd rfl (Or.inl rfl))) (gs_cons (g_name (pg_name (i := 8) sc.nd rfl (Or.inl rfl))) gs_nil))) (s_one (s_if (PW.pt (c_and (c_cmp (op_neQ hu) (d_r (d_var (pv 7))) (d_r (d_var (pv 5))) (nomark _)) (c_and1 (c_cmp op_gtD (d_r (d_callT ok__law_draw (hr.mono (by decide : 1 ≤ 3)) rfl mg__law_draw kp__law_draw bd__law_draw (d_var (pv 0)) (pv 1) (a_cons d_int a_nil))) (d_r d_int) (nomark _))))) (s_one (s_app (ps_expr (pe_bm PySem.F.plainAttrs_list PySem.F.slot_list_append PySem.F.type_list_append mt_append (pv 6) (pa_cons (d_tup (a_cons (d_var (pv 7)) (a_cons (d_callT ok__law_pick (hr.mono (by decide : 2 ≤ 3)) rfl mg__law_pick kp__law_pick bd__law_pick (d_var (pv 0)) (pv 1) (a_cons (d_frz (l_lst (a_cons d_int (a_cons d_int (a_cons d_int (a_cons d_int (a_cons d_int (a_cons d_int (a_cons (d_bin op_mulD (d_r d_int) (d_r (d_var (pv 8)))) a_nil))))))))) a_nil)) a_nil))) pa_nil))))) s_nil)))
    (s_one (s_ret (d_tup (a_cons d_str (a_cons (d_var (pv 4)) (a_cons (d_callTy ct_tuple rfl g.tuple_ (by decide +kernel) (r_cons (d_bor (pv 6)) r_nil)) a_nil)))))))))))

theorem sc__law_ladder : FnScope ["script", "town", "most", "holders", "rungs", "k"] ["script", "town", "most"] (defScope (top 49)) := ⟨rfl, rfl, rfl, by decide +kernel, rfl, by decide +kernel, by decide +kernel⟩
theorem cal__law_ladder {P : Program} {w : World} {K : PySem.W.Frag} {mg : Str → Option Value} {base : Heap} (g : Glob K mg) (F : ∃ f fd, FnP K "_law_ladder" (top 49) f fd ∧ mg "_law_ladder" = some (.ref f)) (c__law_draw : CalT P w K mg base "_law_draw" 1 1 ["script", "town", "limit"] F__law_draw) (c__law_rung : CalT P w K mg base "_law_rung" 4 2 ["script", "town", "holders", "kind"] F__law_rung) : CalT P w K mg base "_law_ladder" 5 1 ["script", "town", "most"] F__law_ladder := by
  obtain ⟨f, fd, F, hm⟩ := F
  obtain ⟨f__law_draw, fd__law_draw, ok__law_draw, mg__law_draw, kp__law_draw, bd__law_draw⟩ := c__law_draw
  obtain ⟨f__law_rung, fd__law_rung, ok__law_rung, mg__law_rung, kp__law_rung, bd__law_rung⟩ := c__law_rung
  refine ⟨f, fd, ?_, hm, F.kp, F.bindsN fun _ _ _ _ _ _ us hl => match us, hl with | [_, _, _], _ => rfl⟩
  have sc := sc__law_ladder
  refine fn_T (toFun F) sc rfl fun cdv A outer s H E hr => ?_
  have hu := units64 hr
  have hu5 := units65 hr
  have hu1 := units1 hr
  exact (s_cons (s_asg (ps_set (i := 3) sc.nd rfl (Or.inr rfl) (d_bin op_addD (d_r d_int) (d_r (d_callT ok__law_draw (hr.mono (by decide : 1 ≤ 4)) rfl mg__law_draw kp__law_draw bd__law_draw (d_var (pv 0)) (pv 1) (a_cons (d_var (pv 2)) a_nil))))))
    (s_cons (s_asg (as_frz (as_comp (by decide) (ps_setLc (own := [("k", 5)]) (i := 4) rfl sc.nd rfl rfl (sw_true rfl rfl rfl (by decide +kernel)) (i_rng rfl g.range_ (a_cons (d_callT ok__law_draw (hr.mono (by decide : 1 ≤ 4)) rfl mg__law_draw kp__law_draw bd__law_draw (d_var (pv 0)) (pv 1) (a_cons d_int a_nil)) a_nil)) (blkOk_by (own := [("k", 5)]) (N := ["script", "town", "most", "holders", "rungs", "k"]) (sc := defScope (top 49)) (by decide +kernel)) (fun _ _ _ _ _ => (g_name (pg_name (i := 5) sc.nd rfl (Or.inl rfl)))) (fun _ _ _ _ _ => t_yes) (fun _ _ _ _ _ => (d_callT ok__law_rung (hr.mono (by decide : 4 ≤ 4)) rfl mg__law_rung kp__law_rung bd__law_rung (d_var (pv 0)) (pv 1) (a_cons (d_var (pv 3)) (a_cons (d_callT ok__law_draw (hr.mono (by decide : 1 ≤ 4)) rfl mg__law_draw kp__law_draw bd__law_draw (d_var (pv 0)) (pv 1) (a_cons d_int a_nil)) a_nil))))))))
    (s_one (s_ret (d_tup (a_cons (d_var (pv 3)) (a_cons (d_bin op_addD (d_r (d_callTy ct_tuple rfl g.tuple_ (by decide +kernel) (r_cons (d_r (d_var (pv 4))) r_nil))) (d_r (d_tup (a_cons (d_callT ok__law_rung (hr.mono (by decide : 4 ≤ 4)) rfl mg__law_rung kp__law_rung bd__law_rung (d_var (pv 0)) (pv 1) (a_cons (d_var (pv 3)) (a_cons d_int a_nil))) a_nil)))) a_nil)))))))

theorem sc__law_amount : FnScope ["script", "town", "most", "bottom"] ["script", "town"] (defScope (top 50)) := ⟨rfl, rfl, rfl, by decide +kernel, rfl, by decide +kernel, by decide +kernel⟩
theorem cal__law_amount {P : Program} {w : World} {K : PySem.W.Frag} {mg : Str → Option Value} {base : Heap} (g : Glob K mg) (F : ∃ f fd, FnP K "_law_amount" (top 50) f fd ∧ mg "_law_amount" = some (.ref f)) (c__law_pick : CalT P w K mg base "_law_pick" 2 1 ["script", "town", "choices"] F__law_pick) (c__law_frac : CalP P w K mg base "_law_frac" 1 2 ["top", "bottom"] F__law_frac) (c__law_draw : CalT P w K mg base "_law_draw" 1 1 ["script", "town", "limit"] F__law_draw) : CalT P w K mg base "_law_amount" 3 0 ["script", "town"] F__law_amount := by
  obtain ⟨f, fd, F, hm⟩ := F
  obtain ⟨f__law_pick, fd__law_pick, ok__law_pick, mg__law_pick, kp__law_pick, bd__law_pick⟩ := c__law_pick
  obtain ⟨f__law_frac, fd__law_frac, ok__law_frac, mg__law_frac, kp__law_frac, bd__law_frac⟩ := c__law_frac
  obtain ⟨f__law_draw, fd__law_draw, ok__law_draw, mg__law_draw, kp__law_draw, bd__law_draw⟩ := c__law_draw
  refine ⟨f, fd, ?_, hm, F.kp, F.bindsN fun _ _ _ _ _ _ us hl => match us, hl with | [_, _], _ => rfl⟩
  have sc := sc__law_amount
  refine fn_T (toFun F) sc rfl fun cdv A outer s H E hr => ?_
  have hu := units64 hr
  have hu5 := units65 hr
  have hu1 := units1 hr
  exact (s_cons (s_asg (ps_set (i := 2) sc.nd rfl (Or.inl rfl) (d_callT ok__law_pick (hr.mono (by decide : 2 ≤ 2)) rfl mg__law_pick kp__law_pick bd__law_pick (d_var (pv 0)) (pv 1) (a_cons (d_frz (l_lst (a_cons d_int (a_cons d_int (a_cons d_int (a_cons d_int (a_cons d_int a_nil))))))) a_nil))))
    (s_cons (s_asg (ps_set (i := 3) sc.nd rfl (Or.inl rfl) (d_callT ok__law_pick (hr.mono (by decide : 2 ≤ 2)) rfl mg__law_pick kp__law_pick bd__law_pick (d_var (pv 0)) (pv 1) (a_cons (d_frz (l_lst (a_cons d_int (a_cons d_int (a_cons d_int (a_cons d_int (a_cons d_int (a_cons d_int a_nil)))))))) a_nil))))
    (s_one (s_ret (d_call ok__law_frac (hr.mono (by decide : 1 ≤ 2)) rfl mg__law_frac kp__law_frac bd__law_frac (a_cons (d_callT ok__law_draw (hr.mono (by decide : 1 ≤ 2)) rfl mg__law_draw kp__law_draw bd__law_draw (d_var (pv 0)) (pv 1) (a_cons (d_bin op_addD (d_r (d_bin op_mulD (d_r (d_var (pv 2))) (d_r (d_var (pv 3))))) (d_r d_int)) a_nil)) (a_cons (d_var (pv 3)) a_nil)))))))

theorem sc__law_rung_pays : FnScope ["holders", "rung", "rest", "paid", "caps", "full", "is_going", "holder", "weight", "whole", "part", "one", "left", "free", "level", "more", "cap", "pair"] ["holders", "rung", "rest"] (defScope (top 51)) := ⟨rfl, rfl, rfl, by decide +kernel, rfl, by decide +kernel, by decide +kernel⟩
theorem cal__law_rung_pays {P : Program} {w : World} {K : PySem.W.Frag} {mg : Str → Option Value} {base : Heap} (g : Glob K mg) (F : ∃ f fd, FnP K "_law_rung_pays" (top 51) f fd ∧ mg "_law_rung_pays" = some (.ref f)) (c__law_less : CalP P w K mg base "_law_less" 2 2 ["one", "other"] F__law_less) (c__law_over : CalP P w K mg base "_law_over" 2 2 ["one", "other"] F__law_over) (c__law_below : CalP P w K mg base "_law_below" 1 2 ["one", "other"] F__law_below) (c__law_times : CalP P w K mg base "_law_times" 2 2 ["one", "other"] F__law_times) : CalP P w K mg base "_law_rung_pays" 3 3 ["holders", "rung", "rest"] F__law_rung_pays := by
  obtain ⟨f, fd, F, hm⟩ := F
  obtain ⟨f__law_less, fd__law_less, ok__law_less, mg__law_less, kp__law_less, bd__law_less⟩ := c__law_less
  obtain ⟨f__law_over, fd__law_over, ok__law_over, mg__law_over, kp__law_over, bd__law_over⟩ := c__law_over
  obtain ⟨f__law_below, fd__law_below, ok__law_below, mg__law_below, kp__law_below, bd__law_below⟩ := c__law_below
  obtain ⟨f__law_times, fd__law_times, ok__law_times, mg__law_times, kp__law_times, bd__law_times⟩ := c__law_times
  refine ⟨f, fd, ?_, hm, F.kp, F.bindsN fun _ _ _ _ _ _ us hl => match us, hl with | [_, _, _], _ => rfl⟩
  have sc := sc__law_rung_pays
  refine fn_P (toFun F) sc rfl fun cdv A outer s H E hr => ?_
  have hu := units64 hr
  have hu5 := units65 hr
  have hu1 := units1 hr
  exact (s_cons (s_own (ps_set (i := 3) sc.nd rfl (Or.inl rfl) (l_bin op_mulL (d_r (d_frz (l_lst (a_cons (d_tup (a_cons d_int (a_cons d_int a_nil))) a_nil)))) (d_r (d_var (pv 0))))))
    (s_cons (s_if (c_cmp (op_eqQ hu) (d_r (d_ix ix_D (d_r (d_var (pv 1))) (d_r d_int) (fun _ _ => rfl))) (d_r d_str) (nomark _)) (s_cons (s_asg (ps_set (i := 9) sc.nd rfl (Or.inl rfl) (d_tup (a_cons (d_callB (cb_sum rfl) rfl g.sum_ (by decide +kernel) (r_cons (d_r (d_frz (l_comp (own := [("holder", 7), ("one", 11)]) rfl sc.nd (i_seq (d_ix ix_D (d_r (d_var (pv 1))) (d_r d_int) (fun _ _ => rfl))) (blkOk_by (own := [("holder", 7), ("one", 11)]) (N := ["holders", "rung", "rest", "paid", "caps", "full", "is_going", "holder", "weight", "whole", "part", "one", "left", "free", "level", "more", "cap", "pair"]) (sc := defScope (top 51)) (by decide +kernel)) (fun _ _ _ _ _ => (g_tup rfl (gs_cons (g_name (pg_name (i := 7) sc.nd rfl (Or.inl rfl))) (gs_cons (g_name (pg_name (i := 11) sc.nd rfl (Or.inl rfl))) gs_nil)))) (fun _ _ _ _ _ => t_yes) (fun _ _ _ _ _ => (d_var (pv 11))) (by decide)))) r_nil)) (a_cons d_int a_nil)))))
    (s_cons (s_asg (ps_set (i := 10) sc.nd rfl (Or.inl rfl) (d_if (c_val (d_call ok__law_below (hr.mono (by decide : 1 ≤ 2)) rfl mg__law_below kp__law_below bd__law_below (a_cons (d_var (pv 2)) (a_cons (d_var (pv 9)) a_nil)))) (d_call ok__law_over (hr.mono (by decide : 2 ≤ 2)) rfl mg__law_over kp__law_over bd__law_over (a_cons (d_var (pv 2)) (a_cons (d_var (pv 9)) a_nil))) (d_tup (a_cons d_int (a_cons d_int a_nil))))))
    (s_cons (s_for PassesOwn.never rfl (i_seq (d_ix ix_D (d_r (d_var (pv 1))) (d_r d_int) (fun _ _ => rfl))) (g_tup rfl (gs_cons (g_name (pg_name (i := 7) sc.nd rfl (Or.inl rfl))) (gs_cons (g_name (pg_name (i := 11) sc.nd rfl (Or.inl rfl))) gs_nil))) (s_one (s_set (ps_asg (d_call ok__law_times (hr.mono (by decide : 2 ≤ 2)) rfl mg__law_times kp__law_times bd__law_times (a_cons (d_tup (a_cons (d_var (pv 11)) (a_cons d_int a_nil))) (a_cons (d_var (pv 10)) a_nil))) (pg_sub (pv 3) (d_var (pv 7)) set_list)))))
    (s_one (s_frz 3 (s_ret (d_tup (a_cons (d_var (pv 3)) (a_cons (d_call ok__law_less (hr.mono (by decide : 2 ≤ 2)) rfl mg__law_less kp__law_less bd__law_less (a_cons (d_var (pv 2)) (a_cons (d_call ok__law_times (hr.mono (by decide : 2 ≤ 2)) rfl mg__law_times kp__law_times bd__law_times (a_cons (d_var (pv 9)) (a_cons (d_var (pv 10)) a_nil))) a_nil))) a_nil))))))))) s_nil)
    (s_cons (s_parN (is := [4, 5]) (ps_asg (pe_tup (m_k (k_dict rfl rfl g.dict_ (by decide +kernel) (d_frz (l_comp (own := [("holder", 7), ("cap", 16)]) rfl sc.nd (i_seq (d_ix ix_D (d_r (d_var (pv 1))) (d_r d_int) (fun _ _ => rfl))) (blkOk_by (own := [("holder", 7), ("cap", 16)]) (N := ["holders", "rung", "rest", "paid", "caps", "full", "is_going", "holder", "weight", "whole", "part", "one", "left", "free", "level", "more", "cap", "pair"]) (sc := defScope (top 51)) (by decide +kernel)) (fun _ _ _ _ _ => (g_tup rfl (gs_cons (g_name (pg_name (i := 7) sc.nd rfl (Or.inl rfl))) (gs_cons (g_name (pg_name (i := 16) sc.nd rfl (Or.inl rfl))) gs_nil)))) (fun _ _ _ _ _ => t_yes) (fun _ _ _ _ _ => (d_tup (a_cons (d_var (pv 7)) (a_cons (d_var (pv 16)) a_nil)))) (by decide)))) (m_d (d_frz (l_lst a_nil)) m_nil))) (pg_tup rfl (pgs_cons (pg_name (i := 4) sc.nd rfl (Or.inr rfl)) (pgs_cons (pg_name (i := 5) sc.nd rfl (Or.inr rfl)) pgs_nil)))) rfl (by decide))
    (s_cons (s_asg (ps_set (i := 6) sc.nd rfl (Or.inl rfl) d_bl))
    (s_cons (s_while PassesOwn.never (c_val (d_var (pv 6))) (s_cons (s_asg (ps_set (i := 12) sc.nd rfl (Or.inl rfl) (d_call ok__law_less (hr.mono (by decide : 2 ≤ 2)) rfl mg__law_less kp__law_less bd__law_less (a_cons (d_var (pv 2)) (a_cons (d_tup (a_cons (d_callB (cb_sum rfl) rfl g.sum_ (by decide +kernel) (r_cons (d_r (d_frz (l_comp (own := [("holder", 7)]) rfl sc.nd (i_seq (d_var (pv 5))) (blkOk_by (own := [("holder", 7)]) (N := ["holders", "rung", "rest", "paid", "caps", "full", "is_going", "holder", "weight", "whole", "part", "one", "left", "free", "level", "more", "cap", "pair"]) (sc := defScope (top 51)) (by decide +kernel)) (fun _ _ _ _ _ => (g_name (pg_name (i := 7) sc.nd rfl (Or.inl rfl)))) (fun _ _ _ _ _ => t_yes) (fun _ _ _ _ _ => (d_dget hu1 (pv 4) (d_var (pv 7)) (fun _ _ => rfl))) (by decide)))) r_nil)) (a_cons d_int a_nil))) a_nil)))))
    (s_cons (s_asg (as_frz (as_comp (by decide) (ps_setLc (own := [("pair", 17)]) (i := 13) rfl sc.nd rfl rfl (sw_true rfl rfl rfl (by decide +kernel)) (i_seq (d_ix ix_D (d_r (d_var (pv 1))) (d_r d_int) (fun _ _ => rfl))) (blkOk_by (own := [("pair", 17)]) (N := ["holders", "rung", "rest", "paid", "caps", "full", "is_going", "holder", "weight", "whole", "part", "one", "left", "free", "level", "more", "cap", "pair"]) (sc := defScope (top 51)) (by decide +kernel)) (fun _ _ _ _ _ => (g_name (pg_name (i := 17) sc.nd rfl (Or.inl rfl)))) (fun _ _ _ _ _ => (t_one (c_cmp (op_notInQ hu5) (d_r (d_ix ix_D (d_r (d_var (pv 17))) (d_r d_int) (fun _ _ => rfl))) (d_r (d_var (pv 5))) (by rfl)))) (fun _ _ _ _ _ => (d_var (pv 17)))))))
    (s_cons (s_asg (ps_set (i := 14) sc.nd rfl (Or.inl rfl) (d_call ok__law_over (hr.mono (by decide : 2 ≤ 2)) rfl mg__law_over kp__law_over bd__law_over (a_cons (d_var (pv 12)) (a_cons (d_tup (a_cons (d_callB (cb_max2 rfl) rfl g.max_ (by decide +kernel) (r_cons (d_r d_int) (r_cons (d_r (d_callB (cb_sum rfl) rfl g.sum_ (by decide +kernel) (r_cons (d_r (d_frz (l_comp (own := [("holder", 7), ("weight", 8)]) rfl sc.nd (i_seq (d_var (pv 13))) (blkOk_by (own := [("holder", 7), ("weight", 8)]) (N := ["holders", "rung", "rest", "paid", "caps", "full", "is_going", "holder", "weight", "whole", "part", "one", "left", "free", "level", "more", "cap", "pair"]) (sc := defScope (top 51)) (by decide +kernel)) (fun _ _ _ _ _ => (g_tup rfl (gs_cons (g_name (pg_name (i := 7) sc.nd rfl (Or.inl rfl))) (gs_cons (g_name (pg_name (i := 8) sc.nd rfl (Or.inl rfl))) gs_nil)))) (fun _ _ _ _ _ => t_yes) (fun _ _ _ _ _ => (d_var (pv 8))) (by decide)))) r_nil))) r_nil))) (a_cons d_int a_nil))) a_nil)))))
    (s_cons (s_own (ps_set (i := 15) sc.nd rfl (Or.inl rfl) (l_lst a_nil)))
    (s_cons (s_for PassesOwn.never rfl (i_seq (d_var (pv 13))) (g_tup rfl (gs_cons (g_name (pg_name (i := 7) sc.nd rfl (Or.inl rfl))) (gs_cons (g_name (pg_name (i := 8) sc.nd rfl (Or.inl rfl))) gs_nil))) (s_one (s_if (PW.pt (c_and (c_din hu1 (d_var (pv 7)) (pv 4)) (c_and1 (c_val (d_call ok__law_below (hr.mono (by decide : 1 ≤ 2)) rfl mg__law_below kp__law_below bd__law_below (a_cons (d_tup (a_cons (d_dget hu1 (pv 4) (d_var (pv 7)) (fun _ _ => rfl)) (a_cons (d_var (pv 8)) a_nil))) (a_cons (d_var (pv 14)) a_nil))))))) (s_one (s_app (ps_expr (pe_bm PySem.F.plainAttrs_list PySem.F.slot_list_append PySem.F.type_list_append mt_append (pv 15) (pa_cons (d_var (pv 7)) pa_nil))))) s_nil)))
    (s_cons (s_asg (ps_set (i := 6) sc.nd rfl (Or.inl rfl) (d_cmp (op_neQ hu) (d_bor (pv 15)) (d_r (d_frz (l_lst a_nil))) (nomark _))))
    (s_one (s_asg (ps_set (i := 5) sc.nd rfl (Or.inr rfl) (d_bin op_addD (d_r (d_var (pv 5))) (d_bor (pv 15)))))))))))))
    (s_cons (s_for PassesOwn.never rfl (i_seq (d_ix ix_D (d_r (d_var (pv 1))) (d_r d_int) (fun _ _ => rfl))) (g_tup rfl (gs_cons (g_name (pg_name (i := 7) sc.nd rfl (Or.inl rfl))) (gs_cons (g_name (pg_name (i := 8) sc.nd rfl (Or.inl rfl))) gs_nil))) (s_one (s_set (ps_asg (d_if (c_cmp (op_inQ hu5) (d_r (d_var (pv 7))) (d_r (d_var (pv 5))) (by rfl)) (d_tup (a_cons (d_dget hu1 (pv 4) (d_var (pv 7)) (fun _ _ => rfl)) (a_cons d_int a_nil))) (d_call ok__law_times (hr.mono (by decide : 2 ≤ 2)) rfl mg__law_times kp__law_times bd__law_times (a_cons (d_var (pv 14)) (a_cons (d_tup (a_cons (d_var (pv 8)) (a_cons d_int a_nil))) a_nil)))) (pg_sub (pv 3) (d_var (pv 7)) set_list)))))
    (s_one (s_frz 3 (s_ret (d_tup (a_cons (d_var (pv 3)) (a_cons (d_if (c_cmp (op_eqQ hu) (d_r (d_var (pv 13))) (d_r (d_frz (l_lst a_nil))) (nomark _)) (d_var (pv 12)) (d_tup (a_cons d_int (a_cons d_int a_nil)))) a_nil))))))))))))

theorem sc__law_pays : FnScope ["ladder", "amount", "found", "rest", "rung", "paid"] ["ladder", "amount"] (defScope (top 52)) := ⟨rfl, rfl, rfl, by decide +kernel, rfl, by decide +kernel, by decide +kernel⟩
theorem cal__law_pays {P : Program} {w : World} {K : PySem.W.Frag} {mg : Str → Option Value} {base : Heap} (g : Glob K mg) (F : ∃ f fd, FnP K "_law_pays" (top 52) f fd ∧ mg "_law_pays" = some (.ref f)) (c__law_rung_pays : CalP P w K mg base "_law_rung_pays" 3 3 ["holders", "rung", "rest"] F__law_rung_pays) : CalP P w K mg base "_law_pays" 4 2 ["ladder", "amount"] F__law_pays := by
  obtain ⟨f, fd, F, hm⟩ := F
  obtain ⟨f__law_rung_pays, fd__law_rung_pays, ok__law_rung_pays, mg__law_rung_pays, kp__law_rung_pays, bd__law_rung_pays⟩ := c__law_rung_pays
  refine ⟨f, fd, ?_, hm, F.kp, F.bindsN fun _ _ _ _ _ _ us hl => match us, hl with | [_, _], _ => rfl⟩
  have sc := sc__law_pays
  refine fn_P (toFun F) sc rfl fun cdv A outer s H E hr => ?_
  have hu := units64 hr
  have hu5 := units65 hr
  have hu1 := units1 hr
  exact (s_cons (s_par2 (ps_par (i := 2) (j := 3) rfl sc.nd rfl rfl (by decide) rfl rfl (m_l (l_lst a_nil) (m_d (d_var (pv 1)) m_nil)) rfl))
    (s_cons (s_for PassesOwn.never rfl (i_seq (d_ix ix_D (d_r (d_var (pv 0))) (d_r d_int) (fun _ _ => rfl))) (g_name (pg_name (i := 4) sc.nd rfl (Or.inl rfl))) (s_cons (s_asgG (ps_asg (d_call ok__law_rung_pays (hr.mono (by decide : 3 ≤ 3)) rfl mg__law_rung_pays kp__law_rung_pays bd__law_rung_pays (a_cons (d_ix ix_D (d_r (d_var (pv 0))) (d_r d_int) (fun _ _ => rfl)) (a_cons (d_var (pv 4)) (a_cons (d_var (pv 3)) a_nil)))) (g_tup rfl (gs_cons (g_name (pg_name (i := 5) sc.nd rfl (Or.inl rfl))) (gs_cons (g_name (pg_name (i := 3) sc.nd rfl (Or.inl rfl))) gs_nil)))))
    (s_one (s_app (ps_expr (pe_bm PySem.F.plainAttrs_list PySem.F.slot_list_append PySem.F.type_list_append mt_append (pv 2) (pa_cons (d_callTy ct_tuple rfl g.tuple_ (by decide +kernel) (r_cons (d_r (d_var (pv 5))) r_nil)) pa_nil)))))))
    (s_one (s_frz 2 (s_ret (d_var (pv 2)))))))

theorem sc__law_total : FnScope ["ladder", "amount", "found", "row", "one", "other"] ["ladder", "amount"] (defScope (top 53)) := ⟨rfl, rfl, rfl, by decide +kernel, rfl, by decide +kernel, by decide +kernel⟩
theorem cal__law_total {P : Program} {w : World} {K : PySem.W.Frag} {mg : Str → Option Value} {base : Heap} (g : Glob K mg) (F : ∃ f fd, FnP K "_law_total" (top 53) f fd ∧ mg "_law_total" = some (.ref f)) (c__law_pays : CalP P w K mg base "_law_pays" 4 2 ["ladder", "amount"] F__law_pays) (c__law_plus : CalP P w K mg base "_law_plus" 2 2 ["one", "other"] F__law_plus) : CalP P w K mg base "_law_total" 5 2 ["ladder", "amount"] F__law_total := by
  obtain ⟨f, fd, F, hm⟩ := F
  obtain ⟨f__law_pays, fd__law_pays, ok__law_pays, mg__law_pays, kp__law_pays, bd__law_pays⟩ := c__law_pays
  obtain ⟨f__law_plus, fd__law_plus, ok__law_plus, mg__law_plus, kp__law_plus, bd__law_plus⟩ := c__law_plus
  refine ⟨f, fd, ?_, hm, F.kp, F.bindsN fun _ _ _ _ _ _ us hl => match us, hl with | [_, _], _ => rfl⟩
  have sc := sc__law_total
  refine fn_P (toFun F) sc rfl fun cdv A outer s H E hr => ?_
  have hu := units64 hr
  have hu5 := units65 hr
  have hu1 := units1 hr
  exact (s_cons (s_asg (ps_set (i := 2) sc.nd rfl (Or.inl rfl) (d_bin op_mulD (d_r (d_frz (l_lst (a_cons (d_tup (a_cons d_int (a_cons d_int a_nil))) a_nil)))) (d_r (d_ix ix_D (d_r (d_var (pv 0))) (d_r d_int) (fun _ _ => rfl))))))
    (s_cons (s_for PassesOwn.never rfl (i_seq (d_call ok__law_pays (hr.mono (by decide : 4 ≤ 4)) rfl mg__law_pays kp__law_pays bd__law_pays (a_cons (d_var (pv 0)) (a_cons (d_var (pv 1)) a_nil)))) (g_name (pg_name (i := 3) sc.nd rfl (Or.inl rfl))) (s_one (s_asg (as_frz (as_comp (by decide) (ps_setLc (own := [("one", 4), ("other", 5)]) (i := 2) rfl sc.nd rfl rfl (sw_true rfl rfl rfl (by decide +kernel)) (i_zip rfl g.zip_ (a_cons (d_var (pv 2)) (a_cons (d_var (pv 3)) a_nil))) (blkOk_by (own := [("one", 4), ("other", 5)]) (N := ["ladder", "amount", "found", "row", "one", "other"]) (sc := defScope (top 53)) (by decide +kernel)) (fun _ _ _ _ _ => (g_tup rfl (gs_cons (g_name (pg_name (i := 4) sc.nd rfl (Or.inl rfl))) (gs_cons (g_name (pg_name (i := 5) sc.nd rfl (Or.inl rfl))) gs_nil)))) (fun _ _ _ _ _ => t_yes) (fun _ _ _ _ _ => (d_call ok__law_plus (hr.mono (by decide : 2 ≤ 4)) rfl mg__law_plus kp__law_plus bd__law_plus (a_cons (d_var (pv 4)) (a_cons (d_var (pv 5)) a_nil))))))))))
    (s_one (s_ret (d_callTy ct_tuple rfl g.tuple_ (by decide +kernel) (r_cons (d_r (d_var (pv 2))) r_nil))))))

theorem sc__law_sum : FnScope ["some", "found", "one"] ["some"] (defScope (top 54)) := ⟨rfl, rfl, rfl, by decide +kernel, rfl, by decide +kernel, by decide +kernel⟩
theorem cal__law_sum {P : Program} {w : World} {K : PySem.W.Frag} {mg : Str → Option Value} {base : Heap} (g : Glob K mg) (F : ∃ f fd, FnP K "_law_sum" (top 54) f fd ∧ mg "_law_sum" = some (.ref f)) (c__law_plus : CalP P w K mg base "_law_plus" 2 2 ["one", "other"] F__law_plus) : CalP P w K mg base "_law_sum" 3 1 ["some"] F__law_sum := by
  obtain ⟨f, fd, F, hm⟩ := F
  obtain ⟨f__law_plus, fd__law_plus, ok__law_plus, mg__law_plus, kp__law_plus, bd__law_plus⟩ := c__law_plus
  refine ⟨f, fd, ?_, hm, F.kp, F.bindsN fun _ _ _ _ _ _ us hl => match us, hl with | [_], _ => rfl⟩
  have sc := sc__law_sum
  refine fn_P (toFun F) sc rfl fun cdv A outer s H E hr => ?_
  have hu := units64 hr
  have hu5 := units65 hr
  have hu1 := units1 hr
  exact (s_cons (s_asg (ps_set (i := 1) sc.nd rfl (Or.inl rfl) (d_tup (a_cons d_int (a_cons d_int a_nil)))))
    (s_cons (s_for PassesOwn.never rfl (i_seq (d_var (pv 0))) (g_name (pg_name (i := 2) sc.nd rfl (Or.inl rfl))) (s_one (s_asg (ps_set (i := 1) sc.nd rfl (Or.inl rfl) (d_call ok__law_plus (hr.mono (by decide : 2 ≤ 2)) rfl mg__law_plus kp__law_plus bd__law_plus (a_cons (d_var (pv 1)) (a_cons (d_var (pv 2)) a_nil)))))))
    (s_one (s_ret (d_var (pv 1))))))

theorem sc_law : FnScope ["script", "town", "ladder", "amount", "rows", "other", "less", "more", "low", "high", "ends", "number", "total", "rung", "due", "full", "holder", "row", "pair"] ["script"] (defScope (top 55)) := ⟨rfl, rfl, rfl, by decide +kernel, rfl, by decide +kernel, by decide +kernel⟩
theorem ok_law {P : Program} {w : World} {K : PySem.W.Frag} {mg : Str → Option Value} {base : Heap} {f : Addr} {fd : FuncData} (g : Glob K mg) (F : FnP K "law" (top 55) f fd) (c__law_town : CalL P w K mg base "_law_town" 1 1 ["script"] F__law_town) (c__law_ladder : CalT P w K mg base "_law_ladder" 5 1 ["script", "town", "most"] F__law_ladder) (c__law_amount : CalT P w K mg base "_law_amount" 3 0 ["script", "town"] F__law_amount) (c__law_pays : CalP P w K mg base "_law_pays" 4 2 ["ladder", "amount"] F__law_pays) (c__law_sum : CalP P w K mg base "_law_sum" 3 1 ["some"] F__law_sum) (c__law_below : CalP P w K mg base "_law_below" 1 2 ["one", "other"] F__law_below) (c_pay : CalP P w K mg base "pay" 10 2 ["ladder", "amount"] F_pay) (c_reached : CalP P w K mg base "reached" 6 1 ["ladder"] F_reached) (c_pay_rungs : CalP P w K mg base "pay_rungs" 8 2 ["ladder", "amount"] F_pay_rungs) (c__law_total : CalP P w K mg base "_law_total" 5 2 ["ladder", "amount"] F__law_total) (c_needed_for : CalP P w K mg base "needed_for" 6 2 ["ladder", "number"] F_needed_for) : FnOk P w K mg base CX0 11 f fd ["script"] (spP K 1 F_law) := by
  obtain ⟨f__law_town, fd__law_town, ok__law_town, mg__law_town, kp__law_town, bd__law_town⟩ := c__law_town
  obtain ⟨f__law_ladder, fd__law_ladder, ok__law_ladder, mg__law_ladder, kp__law_ladder, bd__law_ladder⟩ := c__law_ladder
  obtain ⟨f__law_amount, fd__law_amount, ok__law_amount, mg__law_amount, kp__law_amount, bd__law_amount⟩ := c__law_amount
  obtain ⟨f__law_pays, fd__law_pays, ok__law_pays, mg__law_pays, kp__law_pays, bd__law_pays⟩ := c__law_pays
  obtain ⟨f__law_sum, fd__law_sum, ok__law_sum, mg__law_sum, kp__law_sum, bd__law_sum⟩ := c__law_sum
  obtain ⟨f__law_below, fd__law_below, ok__law_below, mg__law_below, kp__law_below, bd__law_below⟩ := c__law_below
  obtain ⟨f_pay, fd_pay, ok_pay, mg_pay, kp_pay, bd_pay⟩ := c_pay
  obtain ⟨f_reached, fd_reached, ok_reached, mg_reached, kp_reached, bd_reached⟩ := c_reached
  obtain ⟨f_pay_rungs, fd_pay_rungs, ok_pay_rungs, mg_pay_rungs, kp_pay_rungs, bd_pay_rungs⟩ := c_pay_rungs
  obtain ⟨f__law_total, fd__law_total, ok__law_total, mg__law_total, kp__law_total, bd__law_total⟩ := c__law_total
  obtain ⟨f_needed_for, fd_needed_for, ok_needed_for, mg_needed_for, kp_needed_for, bd_needed_for⟩ := c_needed_for
  have sc := sc_law
  refine fn_P (toFun F) sc rfl fun cdv A outer s H E hr => ?_
  have hu := units64 hr
  have hu5 := units65 hr
  have hu1 := units1 hr
  exact (s_cons (s_town (ps_set (i := 1) sc.nd rfl (Or.inl rfl) (l_call ok__law_town (hr.mono (by decide : 1 ≤ 10)) rfl mg__law_town kp__law_town bd__law_town (a_cons (d_var (pv 0)) a_nil))))
    (s_cons (s_asg (ps_set (i := 2) sc.nd rfl (Or.inr rfl) (d_callT ok__law_ladder (hr.mono (by decide : 5 ≤ 10)) rfl mg__law_ladder kp__law_ladder bd__law_ladder (d_var (pv 0)) (pv 1) (a_cons d_int a_nil))))
    (s_cons (s_asg (ps_set (i := 3) sc.nd rfl (Or.inl rfl) (d_callT ok__law_amount (hr.mono (by decide : 3 ≤ 10)) rfl mg__law_amount kp__law_amount bd__law_amount (d_var (pv 0)) (pv 1) a_nil)))
    (s_cons (s_asg (ps_set (i := 4) sc.nd rfl (Or.inl rfl) (d_call ok__law_pays (hr.mono (by decide : 4 ≤ 10)) rfl mg__law_pays kp__law_pays bd__law_pays (a_cons (d_var (pv 2)) (a_cons (d_var (pv 3)) a_nil)))))
    (s_cons (s_if (PW.pt (c_or (c_cmp (op_neQ hu) (d_r (d_call ok_pay_rungs (hr.mono (by decide : 8 ≤ 10)) rfl mg_pay_rungs kp_pay_rungs bd_pay_rungs (a_cons (d_var (pv 2)) (a_cons (d_var (pv 3)) a_nil)))) (d_r (d_callTy ct_tuple rfl g.tuple_ (by decide +kernel) (r_cons (d_r (d_var (pv 4))) r_nil))) (nomark _)) (c_or1 (c_cmp (op_neQ hu) (d_r (d_call ok_pay (hr.mono (by decide : 10 ≤ 10)) rfl mg_pay kp_pay bd_pay (a_cons (d_var (pv 2)) (a_cons (d_var (pv 3)) a_nil)))) (d_r (d_call ok__law_total (hr.mono (by decide : 5 ≤ 10)) rfl mg__law_total kp__law_total bd__law_total (a_cons (d_var (pv 2)) (a_cons (d_var (pv 3)) a_nil)))) (nomark _))))) (s_one (s_ret d_bl)) s_nil)
    (s_cons (s_if (c_cmp (op_neQ hu) (d_r (d_call ok__law_sum (hr.mono (by decide : 3 ≤ 10)) rfl mg__law_sum kp__law_sum bd__law_sum (a_cons (d_call ok_pay (hr.mono (by decide : 10 ≤ 10)) rfl mg_pay kp_pay bd_pay (a_cons (d_var (pv 2)) (a_cons (d_var (pv 3)) a_nil))) a_nil))) (d_r (d_var (pv 3))) (nomark _)) (s_one (s_ret d_bl)) s_nil)
    (s_cons (s_asg (ps_set (i := 5) sc.nd rfl (Or.inl rfl) (d_callT ok__law_amount (hr.mono (by decide : 3 ≤ 10)) rfl mg__law_amount kp__law_amount bd__law_amount (d_var (pv 0)) (pv 1) a_nil)))
    (s_cons (s_asgG (ps_asg (d_if (c_val (d_call ok__law_below (hr.mono (by decide : 1 ≤ 10)) rfl mg__law_below kp__law_below bd__law_below (a_cons (d_var (pv 3)) (a_cons (d_var (pv 5)) a_nil)))) (d_tup (a_cons (d_var (pv 3)) (a_cons (d_var (pv 5)) a_nil))) (d_tup (a_cons (d_var (pv 5)) (a_cons (d_var (pv 3)) a_nil)))) (g_tup rfl (gs_cons (g_name (pg_name (i := 6) sc.nd rfl (Or.inl rfl))) (gs_cons (g_name (pg_name (i := 7) sc.nd rfl (Or.inl rfl))) gs_nil)))))
    (s_cons (s_parN (is := [8, 9]) (ps_asg (pe_tup (m_d (d_call ok_pay (hr.mono (by decide : 10 ≤ 10)) rfl mg_pay kp_pay bd_pay (a_cons (d_var (pv 2)) (a_cons (d_var (pv 6)) a_nil))) (m_d (d_call ok_pay (hr.mono (by decide : 10 ≤ 10)) rfl mg_pay kp_pay bd_pay (a_cons (d_var (pv 2)) (a_cons (d_var (pv 7)) a_nil))) m_nil))) (pg_tup rfl (pgs_cons (pg_name (i := 8) sc.nd rfl (Or.inr rfl)) (pgs_cons (pg_name (i := 9) sc.nd rfl (Or.inr rfl)) pgs_nil)))) rfl (by decide))
    (s_cons (s_if (c_cmp (op_neQ hu) (d_r (d_frz (l_comp (own := [("holder", 16)]) rfl sc.nd (i_rng rfl g.range_ (a_cons (d_ix ix_D (d_r (d_var (pv 2))) (d_r d_int) (fun _ _ => rfl)) a_nil)) (blkOk_by (own := [("holder", 16)]) (N := ["script", "town", "ladder", "amount", "rows", "other", "less", "more", "low", "high", "ends", "number", "total", "rung", "due", "full", "holder", "row", "pair"]) (sc := defScope (top 55)) (by decide +kernel)) (fun _ _ _ _ _ => (g_name (pg_name (i := 16) sc.nd rfl (Or.inl rfl)))) (fun _ _ _ _ _ => (t_one (c_val (d_call ok__law_below (hr.mono (by decide : 1 ≤ 10)) rfl mg__law_below kp__law_below bd__law_below (a_cons (d_ix ix_D (d_r (d_var (pv 9))) (d_r (d_var (pv 16))) (fun _ _ => rfl)) (a_cons (d_ix ix_D (d_r (d_var (pv 8))) (d_r (d_var (pv 16))) (fun _ _ => rfl)) a_nil)))))) (fun _ _ _ _ _ => (d_var (pv 16))) (by decide)))) (d_r (d_frz (l_lst a_nil))) (nomark _)) (s_one (s_ret d_bl)) s_nil)
    (s_cons (s_asg (ps_set (i := 10) sc.nd rfl (Or.inl rfl) (d_frz (l_lst a_nil))))
    (s_cons (s_for PassesOwn.never rfl (i_rng rfl g.range_ (a_cons (d_callB cb_len rfl g.len_ (by decide +kernel) (r_cons (d_r (d_ix ix_D (d_r (d_var (pv 2))) (d_r d_int) (fun _ _ => rfl))) r_nil)) a_nil)) (g_name (pg_name (i := 11) sc.nd rfl (Or.inl rfl))) (s_cons (s_asg (ps_set (i := 13) sc.nd rfl (Or.inl rfl) (d_ix ix_D (d_r (d_ix ix_D (d_r (d_var (pv 2))) (d_r d_int) (fun _ _ => rfl))) (d_r (d_var (pv 11))) (fun _ _ => rfl))))
    (s_one (s_asg (ps_set (i := 10) sc.nd rfl (Or.inl rfl) (d_bin op_addD (d_r (d_var (pv 10))) (d_r (d_bin op_mulD (d_r (d_frz (l_lst (a_cons (d_var (pv 11)) a_nil)))) (d_r (d_callTy ct_int rfl g.int_ (by decide +kernel) (r_cons (d_r (d_and (d_cmp (op_eqQ hu) (d_r (d_ix ix_D (d_r (d_var (pv 13))) (d_r d_int) (fun _ _ => rfl))) (d_r d_str) (nomark _)) (d_one (d_cmp op_gtD (d_r (d_callB cb_len rfl g.len_ (by decide +kernel) (r_cons (d_r (d_ix ix_D (d_r (d_var (pv 13))) (d_r d_int) (fun _ _ => rfl))) r_nil))) (d_r (d_callB cb_len rfl g.len_ (by decide +kernel) (r_cons (d_r (d_ix ix_D (d_r (d_var (pv 13))) (d_r (d_bin op_subD (d_r (d_callB cb_len rfl g.len_ (by decide +kernel) (r_cons (d_r (d_var (pv 13))) r_nil))) (d_r d_int))) (fun _ _ => rfl))) r_nil))) (nomark _))))) r_nil)))))))))))
    (s_cons (s_if (c_cmp (op_neQ hu) (d_r (d_call ok_reached (hr.mono (by decide : 6 ≤ 10)) rfl mg_reached kp_reached bd_reached (a_cons (d_var (pv 2)) a_nil))) (d_r (d_bin op_addD (d_r (d_ix ix_D (d_r (d_var (pv 10))) (d_r d_int) (fun _ _ => rfl))) (d_r d_int))) (nomark _)) (s_one (s_ret d_bl)) s_nil)
    (s_cons (s_if (c_cmp (op_neQ hu) (d_r (d_frz (l_comp (own := [("row", 17)]) rfl sc.nd (i_seq (d_slice (d_r (d_var (pv 4))) (o_some (d_call ok_reached (hr.mono (by decide : 6 ≤ 10)) rfl mg_reached kp_reached bd_reached (a_cons (d_var (pv 2)) a_nil))) o_none)) (blkOk_by (own := [("row", 17)]) (N := ["script", "town", "ladder", "amount", "rows", "other", "less", "more", "low", "high", "ends", "number", "total", "rung", "due", "full", "holder", "row", "pair"]) (sc := defScope (top 55)) (by decide +kernel)) (fun _ _ _ _ _ => (g_name (pg_name (i := 17) sc.nd rfl (Or.inl rfl)))) (fun _ _ _ _ _ => (t_one (c_cmp (op_neQ hu) (d_r (d_var (pv 17))) (d_r (d_bin op_mulD (d_r (d_tup (a_cons (d_tup (a_cons d_int (a_cons d_int a_nil))) a_nil))) (d_r (d_ix ix_D (d_r (d_var (pv 2))) (d_r d_int) (fun _ _ => rfl))))) (nomark _)))) (fun _ _ _ _ _ => (d_var (pv 17))) (by decide)))) (d_r (d_frz (l_lst a_nil))) (nomark _)) (s_one (s_ret d_bl)) s_nil)
    (s_cons (s_asg (ps_set (i := 12) sc.nd rfl (Or.inl rfl) d_int))
    (s_cons (s_for PassesOwn.never rfl (i_rng rfl g.range_ (a_cons (d_callB cb_len rfl g.len_ (by decide +kernel) (r_cons (d_r (d_ix ix_D (d_r (d_var (pv 2))) (d_r d_int) (fun _ _ => rfl))) r_nil)) a_nil)) (g_name (pg_name (i := 11) sc.nd rfl (Or.inl rfl))) (s_cons (s_asg (ps_set (i := 13) sc.nd rfl (Or.inl rfl) (d_ix ix_D (d_r (d_ix ix_D (d_r (d_var (pv 2))) (d_r d_int) (fun _ _ => rfl))) (d_r (d_var (pv 11))) (fun _ _ => rfl))))
    (s_cons (s_asg (ps_set (i := 12) sc.nd rfl (Or.inl rfl) (d_bin op_addD (d_r (d_var (pv 12))) (d_r (d_callB (cb_sum rfl) rfl g.sum_ (by decide +kernel) (r_cons (d_r (d_frz (l_comp (own := [("pair", 18)]) rfl sc.nd (i_seq (d_ix ix_D (d_r (d_var (pv 13))) (d_r (d_bin op_subD (d_r (d_callB cb_len rfl g.len_ (by decide +kernel) (r_cons (d_r (d_var (pv 13))) r_nil))) (d_r d_int))) (fun _ _ => rfl))) (blkOk_by (own := [("pair", 18)]) (N := ["script", "town", "ladder", "amount", "rows", "other", "less", "more", "low", "high", "ends", "number", "total", "rung", "due", "full", "holder", "row", "pair"]) (sc := defScope (top 55)) (by decide +kernel)) (fun _ _ _ _ _ => (g_name (pg_name (i := 18) sc.nd rfl (Or.inl rfl)))) (fun _ _ _ _ _ => t_yes) (fun _ _ _ _ _ => (d_ix ix_D (d_r (d_var (pv 18))) (d_r d_int) (fun _ _ => rfl))) (by decide)))) r_nil))))))
    (s_cons (s_asg (ps_set (i := 14) sc.nd rfl (Or.inl rfl) (d_if (c_cmp op_ltD (d_r (d_var (pv 11))) (d_r (d_ix ix_D (d_r (d_var (pv 10))) (d_r d_int) (fun _ _ => rfl))) (nomark _)) (d_var (pv 12)) d_non)))
    (s_cons (s_if (c_cmp (op_neQ hu) (d_r (d_call ok_needed_for (hr.mono (by decide : 6 ≤ 10)) rfl mg_needed_for kp_needed_for bd_needed_for (a_cons (d_var (pv 2)) (a_cons (d_var (pv 11)) a_nil)))) (d_r (d_var (pv 14))) (nomark _)) (s_one (s_ret d_bl)) s_nil)
    (s_one (s_if (PW.pt (c_and (c_cmp op_isNotQ (d_r (d_var (pv 14))) (d_r d_non) (nomark _)) (c_and1 (c_cmp op_leD (d_r (d_var (pv 14))) (d_r d_int) (nomark _))))) (s_cons (s_asg (ps_set (i := 15) sc.nd rfl (Or.inl rfl) (d_ix ix_D (d_r (d_call ok_pay_rungs (hr.mono (by decide : 8 ≤ 10)) rfl mg_pay_rungs kp_pay_rungs bd_pay_rungs (a_cons (d_var (pv 2)) (a_cons (d_tup (a_cons (d_var (pv 14)) (a_cons d_int a_nil))) a_nil)))) (d_r (d_var (pv 11))) (fun _ _ => rfl))))
    (s_one (s_if (c_cmp (op_neQ hu) (d_r (d_var (pv 15))) (d_r (d_ix ix_D (d_r (d_call ok__law_pays (hr.mono (by decide : 4 ≤ 10)) rfl mg__law_pays kp__law_pays bd__law_pays (a_cons (d_var (pv 2)) (a_cons (d_tup (a_cons d_int (a_cons d_int a_nil))) a_nil)))) (d_r (d_var (pv 11))) (fun _ _ => rfl))) (nomark _)) (s_one (s_ret d_bl)) s_nil))) s_nil)))))))
    (s_one (s_ret (d_cmp (op_eqQ hu) (d_r (d_call ok_pay (hr.mono (by decide : 10 ≤ 10)) rfl mg_pay kp_pay bd_pay (a_cons (d_var (pv 2)) (a_cons (d_tup (a_cons d_int (a_cons d_int a_nil))) a_nil)))) (d_r (d_bin op_mulD (d_r (d_tup (a_cons (d_tup (a_cons d_int (a_cons d_int a_nil))) a_nil))) (d_r (d_ix ix_D (d_r (d_var (pv 2))) (d_r d_int) (fun _ _ => rfl))))) (nomark _))))))))))))))))))))

end Sx

namespace Sx
open PySem PySem.Spec PyProof.Rows L2 Mx
abbrev P02 (ns : List Int) (tw la am ro ot le mo lo hi en nu to rg du fu ho rw pa : Option SV) : Sl := [some (.d (scD ns)), tw, la, am, ro, ot, le, mo, lo, hi, en, nu, to, rg, du, fu, ho, rw, pa]
def endsD (rs : List Rung) : List Dt := ((rs.zipIdx 0).filter (fun p => p.1.endless)).map fun p => PyData.int (p.2 : Int)
theorem ends_test {r : Rung} : ∃ z, lenD [rd r] = some (.int z) ∧ ixD (rd r) (.int (z - 1)) = some (prs r.C) := by
  cases r with
  | fixed s => exact ⟨2, rfl, rfl⟩
  | shares w c => exact ⟨3, rfl, rfl⟩
theorem mul_list {k : Nat} {b : Bool} : mulD (.list [iD k]) (.int (if b = true then 1 else 0)) = some (.list (if b = true then [iD k] else [])) := by
  cases b <;> rfl
theorem ends_loop {ns : List Int} {W : Tw} {l : Lad} {x1 x3 x4 x5 x6 x7 x8 x9 x12 x14 x15 x16 x17 x18 : Option SV} (hk : l.Ok) : ∀ (rest pre : List Rung) (y11 y13 : Option SV), l.rs = pre ++ rest →
    ∃ z11 z13, fL (gN 11) lB_law_2 ((List.range' pre.length rest.length).map iD) (P02 ns x1 (some (.d (ld l))) x3 x4 x5 x6 x7 x8 x9 (some (.d (.list (endsD pre)))) y11 x12 y13 x14 x15 x16 x17 x18) W =
      .nx (P02 ns x1 (some (.d (ld l))) x3 x4 x5 x6 x7 x8 x9 (some (.d (.list (endsD l.rs)))) z11 x12 z13 x14 x15 x16 x17 x18) W
  | [], pre, y11, y13, e => ⟨y11, y13, by rw [e, List.append_nil]; rfl⟩
  | r :: rest, pre, y11, y13, e => by
    obtain ⟨z11, z13, ih⟩ := ends_loop (ns := ns) (W := W) (x1 := x1) (x3 := x3) (x4 := x4) (x5 := x5) (x6 := x6) (x7 := x7) (x8 := x8) (x9 := x9) (x12 := x12) (x14 := x14) (x15 := x15) (x16 := x16) (x17 := x17) (x18 := x18) hk rest (pre ++ [r]) (some (.d (iD pre.length))) (some (.d (rd r))) (by rw [e]; simp)
    refine ⟨z11, z13, ?_⟩
    have hr4 := hk.r4
    have hpl : pre.length < 4 := by rw [e, List.length_append, List.length_cons] at hr4; omega
    have hix : atI (l.rs.map rd) (pre.length : Int) = some (rd r) := by
      rw [atI_nat (by rw [List.length_map, e]; simp), e]; simp
    obtain ⟨z, hz1, hz2⟩ := ends_test (r := r)
    have hle := Ok_len (hk.ok r (by rw [e]; simp)) hk.n5
    have he : endsD (pre ++ [r]) = endsD pre ++ (if r.endless = true then [iD pre.length] else []) := by
      unfold endsD
      rw [List.zipIdx_append, List.filter_append, List.map_append]
      congr 1
      cases hb : r.endless with
      | true => simp [hb]
      | false => simp [hb]
    have hel : (endsD pre).length ≤ pre.length := by
      unfold endsD
      rw [List.length_map]
      refine Nat.le_trans (List.length_filter_le _ _) ?_
      rw [List.length_zipIdx]; exact Nat.le_refl _
    have hbi0 : intD [.bool r.endless] = some (.int (if r.endless = true then 1 else 0)) := rfl
    have hm := mul_list (k := pre.length) (b := r.endless)
    have hm : mulD (.list [.int (pre.length : Int)]) (.int (if r.endless = true then 1 else 0)) = some (.list (if r.endless = true then [iD pre.length] else [])) := hm
    have hl2 : (endsD pre).length + (if r.endless = true then [iD pre.length] else []).length ≤ 100000 := by split <;> simp <;> omega
    have htest : ∀ y0 y1 y2 y3 y4 y5 y6 y7 y8 y9 y10 y11 y12 y14 y15 y16 y17 y18 : Option SV, eAnd (eBin eqD (eBin ixD (eVar 13) (eC (.int 0))) (eC (.str "shares"))) (eBin gtD (eCB lenD (aCons (eBin ixD (eVar 13) (eC (.int 1))) aNil)) (eCB lenD (aCons (eBin ixD (eVar 13) (eBin subD (eCB lenD (aCons (eVar 13) aNil)) (eC (.int 1)))) aNil))) [y0, y1, y2, y3, y4, y5, y6, y7, y8, y9, y10, y11, y12, some (.d (rd r)), y14, y15, y16, y17, y18] W = .ok (.bool r.endless, W) := by
      intros
      cases r with
      | fixed s =>
        have h0 : ixD (rd (.fixed s)) (.int 0) = some (.str "fixed") := rfl
        simp [h0]; rfl
      | shares w c =>
        have h0 : ixD (rd (.shares w c)) (.int 0) = some (.str "shares") := rfl
        have h1 : ixD (rd (.shares w c)) (.int 1) = some (prs w) := rfl
        have hq : prs (Rung.shares w c).C = prs c := rfl
        rw [hq] at hz2
        have hen : (Rung.shares w c).endless = decide (c.length < w.length) := rfl
        rw [hen]
        generalize rd (.shares w c) = R at *
        simp [h0, h1, hz1, hz2]
    have eb : lB_law_2 (P02 ns x1 (some (.d (ld l))) x3 x4 x5 x6 x7 x8 x9 (some (.d (.list (endsD pre)))) (some (.d (iD pre.length))) x12 y13 x14 x15 x16 x17 x18) W = .nx (P02 ns x1 (some (.d (ld l))) x3 x4 x5 x6 x7 x8 x9 (some (.d (.list (endsD (pre ++ [r]))))) (some (.d (iD pre.length))) x12 (some (.d (rd r))) x14 x15 x16 x17 x18) W := by
      rw [he]
      simp only [P02]
      have i1 := ix_ld1 (l := l)
      generalize l.rs.map rd = RD at *
      generalize endsD pre = E1 at *
      unfold lB_law_2
      generalize (eAnd (eBin eqD (eBin ixD (eVar 13) (eC (.int 0))) (eC (.str "shares"))) (eBin gtD (eCB lenD (aCons (eBin ixD (eVar 13) (eC (.int 1))) aNil)) (eCB lenD (aCons (eBin ixD (eVar 13) (eBin subD (eCB lenD (aCons (eVar 13) aNil)) (eC (.int 1)))) aNil)))) = A at *
      generalize (if r.endless = true then [iD pre.length] else []) = E2 at *
      generalize (if r.endless = true then (1 : Int) else 0) = bi at *
      have hbi : intD [.bool r.endless] = some (.int bi) := by assumption
      simp [i1, hix, htest, hbi, hm, hl2]
    rw [List.length_cons, List.range'_succ, List.map_cons, fL_c1 (by simp)]
    simp only [P02, List.set_cons_succ, List.set_cons_zero] at eb ih ⊢
    rw [eb]
    simp only
    have el : (pre ++ [r]).length = pre.length + 1 := by simp
    rw [el] at ih
    exact ih
theorem full_loop {ns : List Int} {W : Tw} {l : Lad} {e0 : List Dt} {x1 x3 x4 x5 x6 x7 x8 x9 x16 x17 : Option SV} (hk : l.Ok) (he0 : atI e0 0 = some (.int ((reachN l.rs : Int) - 1))) : ∀ (rest pre : List Rung) (y11 y13 y14 y15 : Option SV), l.rs = pre ++ rest →
    ∃ z11 z12 z13 z14 z15, fL (gN 11) lB_law_4 ((List.range' pre.length rest.length).map iD) (P02 ns x1 (some (.d (ld l))) x3 x4 x5 x6 x7 x8 x9 (some (.d (.list e0))) y11 (some (.d (iD (dueN pre)))) y13 y14 y15 x16 x17 none) W =
      .nx (P02 ns x1 (some (.d (ld l))) x3 x4 x5 x6 x7 x8 x9 (some (.d (.list e0))) z11 z12 z13 z14 z15 x16 x17 none) W
  | [], pre, y11, y13, y14, y15, e => ⟨_, _, _, _, _, rfl⟩
  | r :: rest, pre, y11, y13, y14, y15, e => by
    have n5 := hk.n5
    have hr4 := hk.r4
    have hkr := hk.ok r (by rw [e]; simp)
    have hpl : pre.length < l.rs.length := by rw [e, List.length_append, List.length_cons]; omega
    have hlC := (Ok_len hkr n5).2
    have hix : atI (l.rs.map rd) (pre.length : Int) = some (rd r) := by
      rw [atI_nat (by rw [List.length_map]; exact hpl), e]; simp
    obtain ⟨z, hz1, hz2⟩ := ends_test (r := r)
    have hc : ∀ y0 y1 y2 y3 y4 y5 y6 y7 y8 y9 y10 y11 y12 y13 y14 y15 y16 y17 : Option SV, cL (gN 18) bYes cE_law_5 [y0, y1, y2, y3, y4, y5, y6, y7, y8, y9, y10, y11, y12, y13, y14, y15, y16, y17, none] (r.C.map pr) W = .ok (r.C.map (fun p => PyData.int (p.2 : Int)), W) := by
      intros
      exact cL_map pr _ _ fun p hp => ⟨_, by simp; rfl, by simp [cE_law_5]⟩
    have hs := sumD_pairs r.C
    have hdue : dueN (pre ++ [r]) = dueN pre + wsum r.C := by
      unfold dueN
      rw [List.map_append, List.sum_append, List.map_singleton, List.sum_singleton]
    have htk : l.rs.take (pre.length + 1) = pre ++ [r] := by rw [e, List.take_length_add_append]; rfl
    have htk0 : l.rs.take pre.length = pre := by rw [e]; simp
    have hnf := needed_for_ok (k := pre.length) hk hpl
    rw [needR_take l.rs (pre.length + 1) 0 hk.ex, htk, hdue, Nat.zero_add] at hnf
    have hrk : l.rs[pre.length]? = some r := by rw [e]; simp
    -- bounds
    have hdb : ∀ rs : List Rung, (∀ q ∈ rs, q.Ok l.n) → dueN rs ≤ 4995 * rs.length := by
      intro rs
      induction rs with
      | nil => intro _; simp [dueN]
      | cons q rs ih =>
        intro hq
        have h1 := ih fun p hp => hq p (List.mem_cons_of_mem _ hp)
        have h2 := Ok_C (hq q (by simp))
        have h3 := wsum_le (m := 999) (A := q.C) fun p hp => (h2.el p hp).2.2
        have h4 := pok_len h2
        have h5 : dueN (q :: rs) = wsum q.C + dueN rs := rfl
        rw [List.length_cons, h5]
        omega
    have hd := hdb (pre ++ [r]) fun q hq => hk.ok q (by
      rw [e]
      rcases List.mem_append.mp hq with w | w
      · exact List.mem_append_left _ w
      · rw [List.mem_singleton.mp w]; simp)
    rw [hdue, List.length_append, List.length_singleton] at hd
    have hdl : dueN pre + wsum r.C ≤ 19980 := by omega
    obtain ⟨D, hD⟩ : ∃ D, D = dueN pre + wsum r.C := ⟨_, rfl⟩
    rw [← hD] at hnf hdl
    -- one turn
    obtain ⟨z14, z15, eb⟩ : ∃ z14 z15, lB_law_4 (P02 ns x1 (some (.d (ld l))) x3 x4 x5 x6 x7 x8 x9 (some (.d (.list e0))) (some (.d (iD pre.length))) (some (.d (iD (dueN pre)))) y13 y14 y15 x16 x17 none) W = .nx (P02 ns x1 (some (.d (ld l))) x3 x4 x5 x6 x7 x8 x9 (some (.d (.list e0))) (some (.d (iD pre.length))) (some (.d (iD D))) (some (.d (rd r))) z14 z15 x16 x17 none) W := by
      have hseq : seqOf (prs r.C) = some (r.C.map pr) := rfl
      have hlC2 : (r.C.map pr).length ≤ 100000 := by rw [List.length_map]; omega
      have hadd : (dueN pre : Int) + (wsum r.C : Int) = (D : Int) := by omega
      have i1 := ix_ld1 (l := l)
      have h12 : ∀ z11 z14 z15 : Option SV, sSeq (sAsg 13 (eBin ixD (eBin ixD (eVar 2) (eC (.int 1))) (eVar 11))) (sAsg 12 (eBin addD (eVar 12) (eCB sumD (aCons (eFrz (lComp (iSeq (eBin ixD (eVar 13) (eBin subD (eCB lenD (aCons (eVar 13) aNil)) (eC (.int 1))))) (gN 18) bYes cE_law_5 [18])) aNil)))) (P02 ns x1 (some (.d (ld l))) x3 x4 x5 x6 x7 x8 x9 (some (.d (.list e0))) (some (.d (iD pre.length))) (some (.d (iD (dueN pre)))) y13 y14 y15 x16 x17 none) W = .nx (P02 ns x1 (some (.d (ld l))) x3 x4 x5 x6 x7 x8 x9 (some (.d (.list e0))) (some (.d (iD pre.length))) (some (.d (iD D))) (some (.d (rd r))) y14 y15 x16 x17 none) W := by
        intros
        simp only [P02]
        generalize l.rs.map rd = RD at *
        generalize r.C.map pr = RC at *
        generalize r.C.map (fun p => PyData.int (p.2 : Int)) = RI at *
        simp [i1, hix, hz1, hz2, hseq, wipeOk, hlC2, hc, hs, hadd]
      have hassoc : ∀ (a b c : SS) (ρ : Sl) (W : Tw), sSeq a (sSeq b c) ρ W = sSeq (sSeq a b) c ρ W := fun a b c ρ W => by
        simp only [sSeq_s]
        cases a ρ W <;> rfl
      by_cases hlt : pre.length + 1 < reachN l.rs
      · rw [if_pos hlt] at hnf
        have hnf : F_needed_for [ld l, .int (pre.length : Int)] = .ok (.int (D : Int)) := hnf
        have hne := reach_not l.rs pre.length r hrk hlt
        -- both full
        have hA1 : Amt (D : Rat) := Amt.nat (by omega)
        have hA2 : Amt (1000000 : Rat) := ⟨by decide, by decide, by decide⟩
        have q1 := pay_rungs_ok hk hA1
        have q2 := pays_ok hk hA2.nn hA2.bd (by decide)
        have hDq : (D : Rat) = (dueN (l.rs.take pre.length) : Rat) + (wsum r.C : Rat) := by rw [htk0, hD, Rat.natCast_add]
        have w0 : (0 : Rat) ≤ (wsum r.C : Rat) := Rat.natCast_nonneg
        have hDle : (D : Rat) ≤ 1000000 := hA1.le
        have a1 := paysR_at (n := l.n) l.rs pre.length (D : Rat) r hk.ok hrk (by omega) (by rw [hDq]; grind)
        have a2 := paysR_at (n := l.n) l.rs pre.length 1000000 r hk.ok hrk (by omega) (by grind)
        have hT := tot_C hkr hne
        have hsame : ev (pcs r) ((D : Rat) - (dueN (l.rs.take pre.length) : Rat)) = ev (pcs r) (1000000 - (dueN (l.rs.take pre.length) : Rat)) := by
          funext h
          rw [ev_sat (pcs_ok hkr) (pcs_fin hkr hne) (x := 1000000 - (dueN (l.rs.take pre.length) : Rat)) (by rw [hT]; grind)]
          congr 1
          rw [hT]; grind
        rw [hsame] at a1
        obtain ⟨f, hf⟩ : ∃ f, f = ev (pcs r) (1000000 - (dueN (l.rs.take pre.length) : Rat)) := ⟨_, rfl⟩
        rw [← hf] at a1 a2
        have b1 : atI (paysD l.n (paysR l.n l.rs (D : Rat))) (pre.length : Int) = some (.tuple (rtL l.n f)) := by
          unfold paysD
          rw [atI_nat (by rw [List.length_map]; exact (List.getElem?_eq_some_iff.mp a1).1), List.getElem?_map, a1]; rfl
        have b2 : atI ((paysR l.n l.rs 1000000).map (fun f => PyData.tuple (rtL l.n f))) (pre.length : Int) = some (.tuple (rtL l.n f)) := by
          rw [atI_nat (by rw [List.length_map]; exact (List.getElem?_eq_some_iff.mp a2).1), List.getElem?_map, a2]; rfl
        have q1 : F_pay_rungs [ld l, .tuple [.int (D : Int), .int 1]] = _ := q1
        have q2 : F__law_pays [ld l, .tuple [.int 1000000, .int 1]] = _ := q2
        have hneP : neD (.tuple (rtL l.n f)) (.tuple (rtL l.n f)) = some (.bool false) := neD_self flt_tup (by decide)
        refine ⟨some (.d (iD D)), some (.d (.tuple (rtL l.n f))), ?_⟩
        unfold lB_law_4
        rw [hassoc, sSeq_s, h12 none none none]
        have hltI : (pre.length : Int) < (reachN l.rs : Int) - 1 := by omega
        have hin : isNotD (iD D) .none = some (.bool true) := rfl
        simp only [P02]
        generalize paysD l.n (paysR l.n l.rs (D : Rat)) = Q1 at *
        generalize (paysR l.n l.rs 1000000).map (fun f => PyData.tuple (rtL l.n f)) = Q2 at *
        generalize rtL l.n f = RF at *
        simp [he0, hltI, hnf, show (D : Int) ≤ 1000000 by omega, q1, q2, b1, b2, hneP, hin]
      · rw [if_neg hlt] at hnf
        have hnf : F_needed_for [ld l, .int (pre.length : Int)] = .ok .none := hnf
        refine ⟨some (.d .none), y15, ?_⟩
        unfold lB_law_4
        rw [hassoc, sSeq_s, h12 none none none]
        have hltI : ¬ (pre.length : Int) < (reachN l.rs : Int) - 1 := by omega
        have hnn : neD .none .none = some (.bool false) := rfl
        simp [P02, he0, hltI, hnf, hnn]
    obtain ⟨w11, w12, w13, w14, w15, ih⟩ := full_loop (ns := ns) (W := W) (x1 := x1) (x3 := x3) (x4 := x4) (x5 := x5) (x6 := x6) (x7 := x7) (x8 := x8) (x9 := x9) (x16 := x16) (x17 := x17) hk he0 rest (pre ++ [r]) (some (.d (iD pre.length))) (some (.d (rd r))) z14 z15 (by rw [e]; simp)
    refine ⟨w11, w12, w13, w14, w15, ?_⟩
    rw [List.length_cons, List.range'_succ, List.map_cons, fL_c1 (by simp)]
    rw [hdue, ← hD] at ih
    simp only [P02, List.set_cons_succ, List.set_cons_zero] at eb ih ⊢
    rw [eb]
    simp only
    have el : (pre ++ [r]).length = pre.length + 1 := by simp
    rw [el] at ih
    exact ih
theorem law_true (ns : List Int) (hl : ns.length ≤ 63) : F_law [.list (ns.map PyData.int)] = .ok (.bool true) := by
  obtain ⟨l, ws1, e1, k, hn5, t1⟩ := ladder_ok (ns := ns) (most := 5) (m := 500000) hl (by decide) (by decide) ((Tn.start ns).mono (by decide))
  obtain ⟨x, ws2, e2, hx, t2⟩ := amount_ok (ns := ns) (m := 400000) hl (t1.mono (by decide))
  obtain ⟨y, ws3, e3, hy, t3⟩ := amount_ok (ns := ns) (m := 300000) hl (t2.mono (by decide))
  have e0 := town_ok ns hl
  have e1 : F__law_ladder [scD ns, .int 5] (.int 0 :: ns.map PyData.int) = .ok (ld l, ws1) := e1
  have n1 := k.n1
  have n5 := k.n5
  have r4 := k.r4
  have py := pays_ok k hx.nn hx.bd (by decide)
  have pr_ := pay_rungs_ok k hx
  have pa := pay_ok k hx
  have pt := total_ok k hx.nn hx.bd (by decide)
  have hpd : (paysR l.n l.rs x).map (fun f => PyData.tuple (rtL l.n f)) = paysD l.n (paysR l.n l.rs x) := rfl
  rw [hpd] at py
  have flp : ∀ fs : List (Nat → Rat), flt 3 (.tuple (paysD l.n fs)) = true := fun fs => show flts 2 (paysD l.n fs) = true from flts_map fun _ _ => flt_tup
  have hneR : neD (.tuple (paysD l.n (paysR l.n l.rs x))) (.tuple (paysD l.n (paysR l.n l.rs x))) = some (.bool false) := neD_self (flp _) (by decide)
  have hneP : neD (.tuple (rtL l.n (l.T x))) (.tuple (rtL l.n (l.T x))) = some (.bool false) := neD_self flt_tup (by decide)
  have hTb : ∀ h, Bd 93 (l.T x h) := fun h => by
    by_cases hh : h < l.n
    · exact (pay_one k hh hx.nn hx.bd (by decide)).2
    · have : l.T x h = 0 := ev_out (lpcs_ok k.ok) (by omega)
      rw [this]; exact ⟨by decide, by decide⟩
  have hsm := law_sum_ok (n := l.n) (f := l.T x) hTb (by have : (93 + 1) * (l.n + 1) ≤ 94 * 6 := Nat.mul_le_mul (by omega) (by omega); omega)
  rw [k.sum hx.nn] at hsm
  have hneX : neD (fr x) (fr x) = some (.bool false) := by rw [neD_fr]; simp
  have pb := lbelow_ok (a := x) (b := y) (hx.bd.mono (by decide)) (hy.bd.mono (by decide))
  obtain ⟨lo, hi, hlo, hhi, hle, hif⟩ : ∃ lo hi : Rat, Amt lo ∧ Amt hi ∧ lo ≤ hi ∧ ∀ y0 y1 y2 y4 y6 y7 y8 y9 y10 y11 y12 y13 y14 y15 y16 y17 y18 : Option SV, eIf (bOf (eCall 2 F__law_below (aCons (eVar 3) (aCons (eVar 5) aNil)))) (eTup (aCons (eVar 3) (aCons (eVar 5) aNil))) (eTup (aCons (eVar 5) (aCons (eVar 3) aNil))) [y0, y1, y2, some (.d (fr x)), y4, some (.d (fr y)), y6, y7, y8, y9, y10, y11, y12, y13, y14, y15, y16, y17, y18] (some ws3) = .ok (.tuple [fr lo, fr hi], some ws3) := by
    by_cases h : x < y
    · rw [decide_eq_true h] at pb
      exact ⟨x, y, hx, hy, Rat.le_of_lt h, by intros; simp [pb]⟩
    · rw [decide_eq_false h] at pb
      exact ⟨y, x, hy, hx, Rat.not_lt.mp h, by intros; simp [pb]⟩
  have plo := pay_ok k hlo
  have phi := pay_ok k hhi
  have hc1 : ∀ y0 y1 y2 y3 y4 y5 y6 y7 y10 y11 y12 y13 y14 y15 y17 y18 : Option SV, cL (gN 16) cC_law_1 cE_law_1 [y0, y1, y2, y3, y4, y5, y6, y7, some (.d (.tuple (rtL l.n (l.T lo)))), some (.d (.tuple (rtL l.n (l.T hi)))), y10, y11, y12, y13, y14, y15, none, y17, y18] ((List.range l.n).map fun (i : Nat) => PyData.int (i : Int)) (some ws3) = .ok ([], some ws3) := by
    intro y0 y1 y2 y3 y4 y5 y6 y7 y10 y11 y12 y13 y14 y15 y17 y18
    have := cL_ty (g := gN 16) (c := cC_law_1) (e := cE_law_1) (W := some ws3) (fun (i : Nat) => PyData.int (i : Int)) (fun _ => false) (fun (i : Nat) => PyData.int (i : Int)) (List.range l.n) (ρ0 := [y0, y1, y2, y3, y4, y5, y6, y7, some (.d (.tuple (rtL l.n (l.T lo)))), some (.d (.tuple (rtL l.n (l.T hi)))), y10, y11, y12, y13, y14, y15, none, y17, y18]) (fun i hi' => by
      have hi' := List.mem_range.mp hi'
      have i1 := ix_tup' (f := l.T lo) hi'
      have i2 := ix_tup' (f := l.T hi) hi'
      have b := lbelow_ok (a := l.T hi i) (b := l.T lo i) ((pay_one k hi' hhi.nn hhi.bd (by decide)).2.mono (by decide)) ((pay_one k hi' hlo.nn hlo.bd (by decide)).2.mono (by decide))
      rw [decide_eq_false (Rat.not_lt.mpr (k.mono hlo.nn hle i))] at b
      refine ⟨_, by simp; rfl, ?_, fun z => by cases z⟩
      generalize rtL l.n (l.T lo) = R1 at *
      generalize rtL l.n (l.T hi) = R2 at *
      simp only [ixD_t] at i1 i2
      simp [cC_law_1, i1, i2, b])
    have hz : (List.range l.n).filter (fun _ => false) = [] := by simp
    rw [hz] at this
    exact this
  have hnil : neD (.list []) (.list []) = some (.bool false) := rfl
  have hrng := rngOf_n (n := l.n) (by omega)
  have hrngR : rngOf [.int ((l.rs.map rd).length : Int)] = some ((List.range l.rs.length).map fun (i : Nat) => PyData.int (i : Int)) := by rw [List.length_map]; exact rngOf_n (by omega)
  obtain ⟨z11, z13, hel⟩ := ends_loop (ns := ns) (W := some ws3) (x1 := some .town) (x3 := some (.d (fr x))) (x4 := some (.d (.list (paysD l.n (paysR l.n l.rs x))))) (x5 := some (.d (fr y))) (x6 := some (.d (fr lo))) (x7 := some (.d (fr hi))) (x8 := some (.d (.tuple (rtL l.n (l.T lo))))) (x9 := some (.d (.tuple (rtL l.n (l.T hi))))) (x12 := none) (x14 := none) (x15 := none) (x16 := none) (x17 := none) (x18 := none) k l.rs [] none none rfl
  rw [List.length_nil, ← List.range_eq_range'] at hel
  have hel : fL (gN 11) lB_law_2 ((List.range l.rs.length).map fun (i : Nat) => PyData.int (i : Int)) _ _ = _ := hel
  obtain ⟨rE, restE, hE⟩ := reach_first l.rs 0 k.ex
  have hpos := reachN_pos k.r1
  have hE0 : atI (endsD l.rs) 0 = some (.int ((reachN l.rs : Int) - 1)) := by
    unfold endsD
    rw [hE, List.map_cons]
    have : ((0 + reachN l.rs - 1 : Nat) : Int) = (reachN l.rs : Int) - 1 := by omega
    rw [this]
    exact atI_0
  have hre := reached_ok k
  obtain ⟨w11, w12, w13, w14, w15, hfl⟩ := full_loop (ns := ns) (W := some ws3) (e0 := endsD l.rs) (x1 := some .town) (x3 := some (.d (fr x))) (x4 := some (.d (.list (paysD l.n (paysR l.n l.rs x))))) (x5 := some (.d (fr y))) (x6 := some (.d (fr lo))) (x7 := some (.d (fr hi))) (x8 := some (.d (.tuple (rtL l.n (l.T lo))))) (x9 := some (.d (.tuple (rtL l.n (l.T hi))))) (x16 := none) (x17 := none) k hE0 l.rs [] z11 z13 none none rfl
  rw [List.length_nil, ← List.range_eq_range'] at hfl
  have hfl : fL (gN 11) lB_law_4 ((List.range l.rs.length).map fun (i : Nat) => PyData.int (i : Int)) _ _ = _ := hfl
  -- rungs behind the first endless one
  have hmt := mulT_zero (n := l.n) n1 n5
  have hdrop : cutD (paysD l.n (paysR l.n l.rs x)) (some (reachN l.rs : Int)) none = ((paysR l.n l.rs x).drop (reachN l.rs)).map (fun f => PyData.tuple (rtL l.n f)) := by
    rw [cutD_drop, List.map_drop]; rfl
  have hplen : (paysR l.n l.rs x).length = l.rs.length := by
    have : ∀ (rs : List Rung) (y : Rat), (paysR l.n rs y).length = rs.length := by
      intro rs
      induction rs with
      | nil => intro y; rfl
      | cons r rs ih => intro y; show (paysR l.n rs _).length + 1 = _; rw [ih]; rfl
    exact this l.rs x
  have hc3 : ∀ y0 y1 y3 y4 y5 y6 y7 y8 y9 y10 y11 y12 y13 y14 y15 y16 y18 : Option SV, cL (gN 17) cC_law_3 cE_law_3 [y0, y1, some (.d (ld l)), y3, y4, y5, y6, y7, y8, y9, y10, y11, y12, y13, y14, y15, y16, none, y18] (((paysR l.n l.rs x).drop (reachN l.rs)).map (fun f => PyData.tuple (rtL l.n f))) (some ws3) = .ok ([], some ws3) := by
    intro y0 y1 y3 y4 y5 y6 y7 y8 y9 y10 y11 y12 y13 y14 y15 y16 y18
    have hz := paysR_drop (n := l.n) l.rs x k.ok hx.nn k.ex
    generalize (paysR l.n l.rs x).drop (reachN l.rs) = fs at *
    have := cL_ty (g := gN 17) (c := cC_law_3) (e := cE_law_3) (W := some ws3) (fun f : Nat → Rat => PyData.tuple (rtL l.n f)) (fun _ => false) (fun f : Nat → Rat => PyData.tuple (rtL l.n f)) fs (ρ0 := [y0, y1, some (.d (ld l)), y3, y4, y5, y6, y7, y8, y9, y10, y11, y12, y13, y14, y15, y16, none, y18]) (fun f hf => by
      have ef : f = fun _ => 0 := funext fun h => hz f hf h
      have hn0 : neD (.tuple (rtL l.n f)) (.tuple (rtL l.n fun _ => 0)) = some (.bool false) := by rw [ef]; exact neD_self flt_tup (by decide)
      refine ⟨_, by simp; rfl, ?_, fun z => by cases z⟩
      generalize rtL l.n f = RF at *
      generalize (rtL l.n fun _ => 0) = RZ at *
      simp [cC_law_3, hmt, hn0])
    have hz2 : fs.filter (fun _ => false) = [] := by simp
    rw [hz2] at this
    exact this
  have hl17 : (((paysR l.n l.rs x).drop (reachN l.rs)).map (fun f => PyData.tuple (rtL l.n f))).length ≤ 100000 := by rw [List.length_map, List.length_drop, hplen]; omega
  have p0 := pay_ok (x := 0) k ⟨Rat.le_refl, by decide, by decide⟩
  have hT0 : l.T 0 = fun _ => 0 := funext fun h => k.zero h
  rw [hT0] at p0
  have p0 : F_pay [ld l, .tuple [.int 0, .int 1]] = .ok (.tuple (rtL l.n fun _ => 0)) := p0
  have heq0 : eqD (.tuple (rtL l.n fun _ => 0)) (.tuple (rtL l.n fun _ => 0)) = some (.bool true) := eqD_self flt_tup (by decide)
  have i1 := ix_ld1 (l := l)
  refine runP_ex (B := B_law) (m := 19) (ds := [scD ns]) ?_
  unfold B_law
  refine sSeq_ex (ρ1 := P02 ns (some .town) none none none none none none none none none none none none none none none none none) (W1 := some (.int 0 :: ns.map PyData.int)) (by simp [e0]) ?_
  refine sSeq_ex (ρ1 := P02 ns (some .town) (some (.d (ld l))) none none none none none none none none none none none none none none none none) (W1 := some ws1) (by simp [e1, P02]) ?_
  refine sSeq_ex (ρ1 := P02 ns (some .town) (some (.d (ld l))) (some (.d (fr x))) none none none none none none none none none none none none none none none) (W1 := some ws2) (by simp [e2, P02]) ?_
  generalize hPD : paysD l.n (paysR l.n l.rs x) = PD at *
  refine sSeq_ex (ρ1 := P02 ns (some .town) (some (.d (ld l))) (some (.d (fr x))) (some (.d (.list PD))) none none none none none none none none none none none none none none) (W1 := some ws2) (by simp [py, P02]) ?_
  refine sSeq_ex (ρ1 := P02 ns (some .town) (some (.d (ld l))) (some (.d (fr x))) (some (.d (.list PD))) none none none none none none none none none none none none none none) (W1 := some ws2) (by
    generalize rtL l.n (l.T x) = RX at *
    simp [P02, pr_, hneR, pa, pt, hneP]) ?_
  refine sSeq_ex (ρ1 := P02 ns (some .town) (some (.d (ld l))) (some (.d (fr x))) (some (.d (.list PD))) none none none none none none none none none none none none none none) (W1 := some ws2) (by
    generalize rtL l.n (l.T x) = RX at *
    simp [P02, pa, hsm, hneX]) ?_
  refine sSeq_ex (ρ1 := P02 ns (some .town) (some (.d (ld l))) (some (.d (fr x))) (some (.d (.list PD))) (some (.d (fr y))) none none none none none none none none none none none none none) (W1 := some ws3) (by simp [P02, e3]) ?_
  refine sSeq_ex (ρ1 := P02 ns (some .town) (some (.d (ld l))) (some (.d (fr x))) (some (.d (.list PD))) (some (.d (fr y))) (some (.d (fr lo))) (some (.d (fr hi))) none none none none none none none none none none none) (W1 := some ws3) (by
    rw [sAsgG_s, hif]
    simp [P02]) ?_
  generalize hRl : rtL l.n (l.T lo) = RL at *
  generalize hRh : rtL l.n (l.T hi) = RH at *
  refine sSeq_ex (ρ1 := P02 ns (some .town) (some (.d (ld l))) (some (.d (fr x))) (some (.d (.list PD))) (some (.d (fr y))) (some (.d (fr lo))) (some (.d (fr hi))) (some (.d (.tuple RL))) (some (.d (.tuple RH))) none none none none none none none none none) (W1 := some ws3) (by simp [P02, plo, phi]) ?_
  refine sSeq_ex (ρ1 := P02 ns (some .town) (some (.d (ld l))) (some (.d (fr x))) (some (.d (.list PD))) (some (.d (fr y))) (some (.d (fr lo))) (some (.d (fr hi))) (some (.d (.tuple RL))) (some (.d (.tuple RH))) none none none none none none none none none) (W1 := some ws3) (by simp [P02, hrng, wipeOk, show l.n ≤ 100000 by omega, hc1, hnil]) ?_
  refine sSeq_ex (ρ1 := P02 ns (some .town) (some (.d (ld l))) (some (.d (fr x))) (some (.d (.list PD))) (some (.d (fr y))) (some (.d (fr lo))) (some (.d (fr hi))) (some (.d (.tuple RL))) (some (.d (.tuple RH))) (some (.d (.list []))) none none none none none none none none) (W1 := some ws3) (by simp [P02]) ?_
  refine sSeq_ex (ρ1 := P02 ns (some .town) (some (.d (ld l))) (some (.d (fr x))) (some (.d (.list PD))) (some (.d (fr y))) (some (.d (fr lo))) (some (.d (fr hi))) (some (.d (.tuple RL))) (some (.d (.tuple RH))) (some (.d (.list (endsD l.rs)))) z11 none z13 none none none none none) (W1 := some ws3) (by
    simp only [P02] at hel ⊢
    have hel : fL (gN 11) lB_law_2 ((List.range l.rs.length).map fun (i : Nat) => PyData.int (i : Int)) [some (.d (scD ns)), some .town, some (.d (ld l)), some (.d (fr x)), some (.d (.list PD)), some (.d (fr y)), some (.d (fr lo)), some (.d (fr hi)), some (.d (.tuple RL)), some (.d (.tuple RH)), some (.d (.list [])), none, none, none, none, none, none, none, none] (some ws3) = _ := hel
    generalize l.rs.map rd = RD at *
    generalize endsD l.rs = ED at *
    simp [i1, hrngR, hel]) ?_
  generalize hED : endsD l.rs = ED at *
  refine sSeq_ex (ρ1 := P02 ns (some .town) (some (.d (ld l))) (some (.d (fr x))) (some (.d (.list PD))) (some (.d (fr y))) (some (.d (fr lo))) (some (.d (fr hi))) (some (.d (.tuple RL))) (some (.d (.tuple RH))) (some (.d (.list ED))) z11 none z13 none none none none none) (W1 := some ws3) (by simp [P02, hre, hE0]) ?_
  refine sSeq_ex (ρ1 := P02 ns (some .town) (some (.d (ld l))) (some (.d (fr x))) (some (.d (.list PD))) (some (.d (fr y))) (some (.d (fr lo))) (some (.d (fr hi))) (some (.d (.tuple RL))) (some (.d (.tuple RH))) (some (.d (.list ED))) z11 none z13 none none none none none) (W1 := some ws3) (by
    generalize ((paysR l.n l.rs x).drop (reachN l.rs)).map (fun f => PyData.tuple (rtL l.n f)) = PZ at *
    simp [P02, hre, hdrop, wipeOk, hl17, hc3, hnil]) ?_
  refine sSeq_ex (ρ1 := P02 ns (some .town) (some (.d (ld l))) (some (.d (fr x))) (some (.d (.list PD))) (some (.d (fr y))) (some (.d (fr lo))) (some (.d (fr hi))) (some (.d (.tuple RL))) (some (.d (.tuple RH))) (some (.d (.list ED))) z11 (some (.d (.int 0))) z13 none none none none none) (W1 := some ws3) (by simp [P02]) ?_
  refine sSeq_ex (ρ1 := P02 ns (some .town) (some (.d (ld l))) (some (.d (fr x))) (some (.d (.list PD))) (some (.d (fr y))) (some (.d (fr lo))) (some (.d (fr hi))) (some (.d (.tuple RL))) (some (.d (.tuple RH))) (some (.d (.list ED))) w11 w12 w13 w14 w15 none none none) (W1 := some ws3) (by
    simp only [P02] at hfl ⊢
    have hfl : fL (gN 11) lB_law_4 ((List.range l.rs.length).map fun (i : Nat) => PyData.int (i : Int)) [some (.d (scD ns)), some .town, some (.d (ld l)), some (.d (fr x)), some (.d (.list PD)), some (.d (fr y)), some (.d (fr lo)), some (.d (fr hi)), some (.d (.tuple RL)), some (.d (.tuple RH)), some (.d (.list ED)), z11, some (.d (.int 0)), z13, none, none, none, none, none] (some ws3) = _ := hfl
    generalize l.rs.map rd = RD at *
    simp [i1, hrngR, hfl]) ?_
  refine ⟨some ws3, ?_⟩
  generalize (rtL l.n fun _ => 0) = RZ at *
  simp [P02, p0, hmt, heq0]
end Sx

namespace Sx
open PySem PySem.Spec PyProof.Rows L2

abbrev R : PySem.W.OpenRow := PySem.W.OpenLaw.row PySem.Challenge.rw_payladders_k02_whole_payments
def dd_is_between : He.DefD := ⟨("is_between", none), "is_between", "is_between", defArgs (top 8), defBody (top 8), defScope (top 8), [], []⟩
def dd_divisor : He.DefD := ⟨("divisor", none), "divisor", "divisor", defArgs (top 9), defBody (top 9), defScope (top 9), [], []⟩
def dd_fraction : He.DefD := ⟨("fraction", none), "fraction", "fraction", defArgs (top 10), defBody (top 10), defScope (top 10), [], []⟩
def dd_plus : He.DefD := ⟨("plus", none), "plus", "plus", defArgs (top 11), defBody (top 11), defScope (top 11), [], []⟩
def dd_minus : He.DefD := ⟨("minus", none), "minus", "minus", defArgs (top 12), defBody (top 12), defScope (top 12), [], []⟩
def dd_product : He.DefD := ⟨("product", none), "product", "product", defArgs (top 13), defBody (top 13), defScope (top 13), [], []⟩
def dd_quotient : He.DefD := ⟨("quotient", none), "quotient", "quotient", defArgs (top 14), defBody (top 14), defScope (top 14), [], []⟩
def dd_is_less : He.DefD := ⟨("is_less", none), "is_less", "is_less", defArgs (top 15), defBody (top 15), defScope (top 15), [], []⟩
def dd_lesser : He.DefD := ⟨("lesser", none), "lesser", "lesser", defArgs (top 16), defBody (top 16), defScope (top 16), [], []⟩
def dd_are_pairs : He.DefD := ⟨("are_pairs", none), "are_pairs", "are_pairs", defArgs (top 17), defBody (top 17), defScope (top 17), [], []⟩
def dd_is_rung : He.DefD := ⟨("is_rung", none), "is_rung", "is_rung", defArgs (top 18), defBody (top 18), defScope (top 18), [], []⟩
def dd_is_endless : He.DefD := ⟨("is_endless", none), "is_endless", "is_endless", defArgs (top 19), defBody (top 19), defScope (top 19), [], []⟩
def dd_is_ladder : He.DefD := ⟨("is_ladder", none), "is_ladder", "is_ladder", defArgs (top 20), defBody (top 20), defScope (top 20), [], []⟩
def dd_check_ladder : He.DefD := ⟨("check_ladder", none), "check_ladder", "check_ladder", defArgs (top 21), defBody (top 21), defScope (top 21), [], []⟩
def dd_is_amount : He.DefD := ⟨("is_amount", none), "is_amount", "is_amount", defArgs (top 22), defBody (top 22), defScope (top 22), [], []⟩
def dd_check_amount : He.DefD := ⟨("check_amount", none), "check_amount", "check_amount", defArgs (top 23), defBody (top 23), defScope (top 23), [], []⟩
def dd_reached : He.DefD := ⟨("reached", none), "reached", "reached", defArgs (top 24), defBody (top 24), defScope (top 24), [], []⟩
def dd_needed_for : He.DefD := ⟨("needed_for", none), "needed_for", "needed_for", defArgs (top 25), defBody (top 25), defScope (top 25), [], []⟩
def dd_fixed_pieces : He.DefD := ⟨("fixed_pieces", none), "fixed_pieces", "fixed_pieces", defArgs (top 27), defBody (top 27), defScope (top 27), [], []⟩
def dd_share_pieces : He.DefD := ⟨("share_pieces", none), "share_pieces", "share_pieces", defArgs (top 28), defBody (top 28), defScope (top 28), [], []⟩
def dd_rung_pieces : He.DefD := ⟨("rung_pieces", none), "rung_pieces", "rung_pieces", defArgs (top 29), defBody (top 29), defScope (top 29), [], []⟩
def dd_pieces_of : He.DefD := ⟨("pieces_of", none), "pieces_of", "pieces_of", defArgs (top 30), defBody (top 30), defScope (top 30), [], []⟩
def dd_found_bends : He.DefD := ⟨("found_bends", none), "found_bends", "found_bends", defArgs (top 31), defBody (top 31), defScope (top 31), [], []⟩
def dd_payment_at : He.DefD := ⟨("payment_at", none), "payment_at", "payment_at", defArgs (top 32), defBody (top 32), defScope (top 32), [], []⟩
def dd_all_payments : He.DefD := ⟨("all_payments", none), "all_payments", "all_payments", defArgs (top 33), defBody (top 33), defScope (top 33), [], []⟩
def dd_pay : He.DefD := ⟨("pay", none), "pay", "pay", defArgs (top 35), defBody (top 35), defScope (top 35), [], []⟩
def dd_pay_rungs : He.DefD := ⟨("pay_rungs", none), "pay_rungs", "pay_rungs", defArgs (top 36), defBody (top 36), defScope (top 36), [], []⟩
def dd__law_town : He.DefD := ⟨("_law_town", none), "_law_town", "_law_town", defArgs (top 38), defBody (top 38), defScope (top 38), [], []⟩
def dd__law_draw : He.DefD := ⟨("_law_draw", none), "_law_draw", "_law_draw", defArgs (top 39), defBody (top 39), defScope (top 39), [], []⟩
def dd__law_pick : He.DefD := ⟨("_law_pick", none), "_law_pick", "_law_pick", defArgs (top 40), defBody (top 40), defScope (top 40), [], []⟩
def dd__law_frac : He.DefD := ⟨("_law_frac", none), "_law_frac", "_law_frac", defArgs (top 41), defBody (top 41), defScope (top 41), [], []⟩
def dd__law_plus : He.DefD := ⟨("_law_plus", none), "_law_plus", "_law_plus", defArgs (top 42), defBody (top 42), defScope (top 42), [], []⟩
def dd__law_less : He.DefD := ⟨("_law_less", none), "_law_less", "_law_less", defArgs (top 43), defBody (top 43), defScope (top 43), [], []⟩
def dd__law_times : He.DefD := ⟨("_law_times", none), "_law_times", "_law_times", defArgs (top 44), defBody (top 44), defScope (top 44), [], []⟩
def dd__law_over : He.DefD := ⟨("_law_over", none), "_law_over", "_law_over", defArgs (top 45), defBody (top 45), defScope (top 45), [], []⟩
def dd__law_below : He.DefD := ⟨("_law_below", none), "_law_below", "_law_below", defArgs (top 46), defBody (top 46), defScope (top 46), [], []⟩
def dd__law_pairs : He.DefD := ⟨("_law_pairs", none), "_law_pairs", "_law_pairs", defArgs (top 47), defBody (top 47), defScope (top 47), [], []⟩
def dd__law_rung : He.DefD := ⟨("_law_rung", none), "_law_rung", "_law_rung", defArgs (top 48), defBody (top 48), defScope (top 48), [], []⟩
def dd__law_ladder : He.DefD := ⟨("_law_ladder", none), "_law_ladder", "_law_ladder", defArgs (top 49), defBody (top 49), defScope (top 49), [], []⟩
def dd__law_amount : He.DefD := ⟨("_law_amount", none), "_law_amount", "_law_amount", defArgs (top 50), defBody (top 50), defScope (top 50), [], []⟩
def dd__law_rung_pays : He.DefD := ⟨("_law_rung_pays", none), "_law_rung_pays", "_law_rung_pays", defArgs (top 51), defBody (top 51), defScope (top 51), [], []⟩
def dd__law_pays : He.DefD := ⟨("_law_pays", none), "_law_pays", "_law_pays", defArgs (top 52), defBody (top 52), defScope (top 52), [], []⟩
def dd__law_total : He.DefD := ⟨("_law_total", none), "_law_total", "_law_total", defArgs (top 53), defBody (top 53), defScope (top 53), [], []⟩
def dd__law_sum : He.DefD := ⟨("_law_sum", none), "_law_sum", "_law_sum", defArgs (top 54), defBody (top 54), defScope (top 54), [], []⟩
def dd_law : He.DefD := ⟨("law", none), "law", "law", defArgs (top 55), defBody (top 55), defScope (top 55), [], []⟩
def fn : List He.DefD := [dd_is_between, dd_divisor, dd_fraction, dd_plus, dd_minus, dd_product, dd_quotient, dd_is_less, dd_lesser, dd_are_pairs, dd_is_rung, dd_is_endless, dd_is_ladder, dd_check_ladder, dd_is_amount, dd_check_amount, dd_reached, dd_needed_for, dd_fixed_pieces, dd_share_pieces, dd_rung_pieces, dd_pieces_of, dd_found_bends, dd_payment_at, dd_all_payments, dd_pay, dd_pay_rungs, dd__law_town, dd__law_draw, dd__law_pick, dd__law_frac, dd__law_plus, dd__law_less, dd__law_times, dd__law_over, dd__law_below, dd__law_pairs, dd__law_rung, dd__law_ladder, dd__law_amount, dd__law_rung_pays, dd__law_pays, dd__law_total, dd__law_sum, dd_law]
def fa0 : List He.Fa := [.glo "is_between", .glo "divisor", .glo "fraction", .glo "plus", .glo "minus", .glo "product", .glo "quotient", .glo "is_less", .glo "lesser", .glo "are_pairs", .glo "is_rung", .glo "is_endless", .glo "is_ladder", .glo "check_ladder", .glo "is_amount", .glo "check_amount", .glo "reached", .glo "needed_for", .glo "fixed_pieces", .glo "share_pieces", .glo "rung_pieces", .glo "pieces_of", .glo "found_bends", .glo "payment_at", .glo "all_payments", .glo "pay", .glo "pay_rungs", .glo "_law_town", .glo "_law_draw", .glo "_law_pick"]
def fa1 : List He.Fa := [.glo "_law_frac", .glo "_law_plus", .glo "_law_less", .glo "_law_times", .glo "_law_over", .glo "_law_below", .glo "_law_pairs", .glo "_law_rung", .glo "_law_ladder", .glo "_law_amount", .glo "_law_rung_pays", .glo "_law_pays", .glo "_law_total", .glo "_law_sum", .glo "law", .free "len", .free "sum", .free "all", .free "any", .free "tuple", .free "list", .free "abs", .free "int", .free "str", .free "bool", .free "max", .free "min", .free "dict", .free "range", .free "enumerate"]
def fa2 : List He.Fa := [.free "zip", .free "sorted", .free "isinstance", .int "MOST" 1000000, .glo "ZERO"]
def fa : List He.Fa := fa0 ++ fa1 ++ fa2
def loose0 : List Str := ["__name__", "LadderError", "InvalidLadder", "InvalidAmount", "InvalidNumber", "MOST", "ZERO", "is_between", "divisor", "fraction", "plus", "minus", "product", "quotient", "is_less", "lesser", "are_pairs", "is_rung", "is_endless", "is_ladder", "check_ladder", "is_amount", "check_amount", "reached", "needed_for", "fixed_pieces", "share_pieces", "rung_pieces", "pieces_of", "found_bends"]
def loose1 : List Str := ["payment_at", "all_payments", "pay", "pay_rungs", "_law_town", "_law_draw", "_law_pick", "_law_frac", "_law_plus", "_law_less", "_law_times", "_law_over", "_law_below", "_law_pairs", "_law_rung", "_law_ladder", "_law_amount", "_law_rung_pays", "_law_pays", "_law_total", "_law_sum"]
def loose : List Str := loose0 ++ loose1
abbrev hk : PySem.W.Hook := He.hookX 4 fa fn [] [] exZ
def ob (s : PySem.W.SharedT) : He.AlX := He.obsX 4 fa fn [] [] exZ (HandSHeadRun.getT s)
theorem ob_eq (s : PySem.W.SharedT) : ob s = hk.obs s.abs := He.obsX_eq (HandSHeadRun.getT_eq s)
theorem run (w : World) : HandSHeadRun.RunEq R (PySem.W.view R.prog [55]) hk ob 4000 loose w := by
  intro os
  kernel_rfl
theorem facts {P : Program} {w : World} {K : PySem.W.Frag} {h : Heap} {mg : Str → Option Value} {f : Addr} (KX : K.In h) (G : h.Ns mainGlobals mg) (hfa : mg ("law" : Str) = some (.ref f)) (c : He.SaysX fa fn [] [] exZ w h K) :
    ∃ fd : FuncData, (∀ (s : Shared) (v : Value), BindsTo s fd ⟨[v], []⟩ [("script", v)]) ∧ ∀ base : Heap, K.In base → base.Ns mainGlobals mg → FnOk P w K mg base CX0 11 f fd ["script"] (spP K 1 F_law) := by
  have cT := c.t
  have cD : He.SaysD fa fn K := cT.d
  have F_0 : ∃ f fd, FnP K "is_between" (top 8) f fd ∧ mg "is_between" = some (.ref f) := by
    obtain ⟨fd, F⟩ := cD.def_ 0 (d := dd_is_between) rfl
    exact ⟨_, fd, F, He.glo_ok KX G (cD.fact 0 (f := .glo "is_between") rfl)⟩
  have F_1 : ∃ f fd, FnP K "divisor" (top 9) f fd ∧ mg "divisor" = some (.ref f) := by
    obtain ⟨fd, F⟩ := cD.def_ 1 (d := dd_divisor) rfl
    exact ⟨_, fd, F, He.glo_ok KX G (cD.fact 1 (f := .glo "divisor") rfl)⟩
  have F_2 : ∃ f fd, FnP K "fraction" (top 10) f fd ∧ mg "fraction" = some (.ref f) := by
    obtain ⟨fd, F⟩ := cD.def_ 2 (d := dd_fraction) rfl
    exact ⟨_, fd, F, He.glo_ok KX G (cD.fact 2 (f := .glo "fraction") rfl)⟩
  have F_3 : ∃ f fd, FnP K "plus" (top 11) f fd ∧ mg "plus" = some (.ref f) := by
    obtain ⟨fd, F⟩ := cD.def_ 3 (d := dd_plus) rfl
    exact ⟨_, fd, F, He.glo_ok KX G (cD.fact 3 (f := .glo "plus") rfl)⟩
  have F_4 : ∃ f fd, FnP K "minus" (top 12) f fd ∧ mg "minus" = some (.ref f) := by
    obtain ⟨fd, F⟩ := cD.def_ 4 (d := dd_minus) rfl
    exact ⟨_, fd, F, He.glo_ok KX G (cD.fact 4 (f := .glo "minus") rfl)⟩
  have F_5 : ∃ f fd, FnP K "product" (top 13) f fd ∧ mg "product" = some (.ref f) := by
    obtain ⟨fd, F⟩ := cD.def_ 5 (d := dd_product) rfl
    exact ⟨_, fd, F, He.glo_ok KX G (cD.fact 5 (f := .glo "product") rfl)⟩
  have F_6 : ∃ f fd, FnP K "quotient" (top 14) f fd ∧ mg "quotient" = some (.ref f) := by
    obtain ⟨fd, F⟩ := cD.def_ 6 (d := dd_quotient) rfl
    exact ⟨_, fd, F, He.glo_ok KX G (cD.fact 6 (f := .glo "quotient") rfl)⟩
  have F_7 : ∃ f fd, FnP K "is_less" (top 15) f fd ∧ mg "is_less" = some (.ref f) := by
    obtain ⟨fd, F⟩ := cD.def_ 7 (d := dd_is_less) rfl
    exact ⟨_, fd, F, He.glo_ok KX G (cD.fact 7 (f := .glo "is_less") rfl)⟩
  have F_8 : ∃ f fd, FnP K "lesser" (top 16) f fd ∧ mg "lesser" = some (.ref f) := by
    obtain ⟨fd, F⟩ := cD.def_ 8 (d := dd_lesser) rfl
    exact ⟨_, fd, F, He.glo_ok KX G (cD.fact 8 (f := .glo "lesser") rfl)⟩
  have F_9 : ∃ f fd, FnP K "are_pairs" (top 17) f fd ∧ mg "are_pairs" = some (.ref f) := by
    obtain ⟨fd, F⟩ := cD.def_ 9 (d := dd_are_pairs) rfl
    exact ⟨_, fd, F, He.glo_ok KX G (cD.fact 9 (f := .glo "are_pairs") rfl)⟩
  have F_10 : ∃ f fd, FnP K "is_rung" (top 18) f fd ∧ mg "is_rung" = some (.ref f) := by
    obtain ⟨fd, F⟩ := cD.def_ 10 (d := dd_is_rung) rfl
    exact ⟨_, fd, F, He.glo_ok KX G (cD.fact 10 (f := .glo "is_rung") rfl)⟩
  have F_11 : ∃ f fd, FnP K "is_endless" (top 19) f fd ∧ mg "is_endless" = some (.ref f) := by
    obtain ⟨fd, F⟩ := cD.def_ 11 (d := dd_is_endless) rfl
    exact ⟨_, fd, F, He.glo_ok KX G (cD.fact 11 (f := .glo "is_endless") rfl)⟩
  have F_12 : ∃ f fd, FnP K "is_ladder" (top 20) f fd ∧ mg "is_ladder" = some (.ref f) := by
    obtain ⟨fd, F⟩ := cD.def_ 12 (d := dd_is_ladder) rfl
    exact ⟨_, fd, F, He.glo_ok KX G (cD.fact 12 (f := .glo "is_ladder") rfl)⟩
  have F_13 : ∃ f fd, FnP K "check_ladder" (top 21) f fd ∧ mg "check_ladder" = some (.ref f) := by
    obtain ⟨fd, F⟩ := cD.def_ 13 (d := dd_check_ladder) rfl
    exact ⟨_, fd, F, He.glo_ok KX G (cD.fact 13 (f := .glo "check_ladder") rfl)⟩
  have F_14 : ∃ f fd, FnP K "is_amount" (top 22) f fd ∧ mg "is_amount" = some (.ref f) := by
    obtain ⟨fd, F⟩ := cD.def_ 14 (d := dd_is_amount) rfl
    exact ⟨_, fd, F, He.glo_ok KX G (cD.fact 14 (f := .glo "is_amount") rfl)⟩
  have F_15 : ∃ f fd, FnP K "check_amount" (top 23) f fd ∧ mg "check_amount" = some (.ref f) := by
    obtain ⟨fd, F⟩ := cD.def_ 15 (d := dd_check_amount) rfl
    exact ⟨_, fd, F, He.glo_ok KX G (cD.fact 15 (f := .glo "check_amount") rfl)⟩
  have F_16 : ∃ f fd, FnP K "reached" (top 24) f fd ∧ mg "reached" = some (.ref f) := by
    obtain ⟨fd, F⟩ := cD.def_ 16 (d := dd_reached) rfl
    exact ⟨_, fd, F, He.glo_ok KX G (cD.fact 16 (f := .glo "reached") rfl)⟩
  have F_17 : ∃ f fd, FnP K "needed_for" (top 25) f fd ∧ mg "needed_for" = some (.ref f) := by
    obtain ⟨fd, F⟩ := cD.def_ 17 (d := dd_needed_for) rfl
    exact ⟨_, fd, F, He.glo_ok KX G (cD.fact 17 (f := .glo "needed_for") rfl)⟩
  have F_18 : ∃ f fd, FnP K "fixed_pieces" (top 27) f fd ∧ mg "fixed_pieces" = some (.ref f) := by
    obtain ⟨fd, F⟩ := cD.def_ 18 (d := dd_fixed_pieces) rfl
    exact ⟨_, fd, F, He.glo_ok KX G (cD.fact 18 (f := .glo "fixed_pieces") rfl)⟩
  have F_19 : ∃ f fd, FnP K "share_pieces" (top 28) f fd ∧ mg "share_pieces" = some (.ref f) := by
    obtain ⟨fd, F⟩ := cD.def_ 19 (d := dd_share_pieces) rfl
    exact ⟨_, fd, F, He.glo_ok KX G (cD.fact 19 (f := .glo "share_pieces") rfl)⟩
  have F_20 : ∃ f fd, FnP K "rung_pieces" (top 29) f fd ∧ mg "rung_pieces" = some (.ref f) := by
    obtain ⟨fd, F⟩ := cD.def_ 20 (d := dd_rung_pieces) rfl
    exact ⟨_, fd, F, He.glo_ok KX G (cD.fact 20 (f := .glo "rung_pieces") rfl)⟩
  have F_21 : ∃ f fd, FnP K "pieces_of" (top 30) f fd ∧ mg "pieces_of" = some (.ref f) := by
    obtain ⟨fd, F⟩ := cD.def_ 21 (d := dd_pieces_of) rfl
    exact ⟨_, fd, F, He.glo_ok KX G (cD.fact 21 (f := .glo "pieces_of") rfl)⟩
  have F_22 : ∃ f fd, FnP K "found_bends" (top 31) f fd ∧ mg "found_bends" = some (.ref f) := by
    obtain ⟨fd, F⟩ := cD.def_ 22 (d := dd_found_bends) rfl
    exact ⟨_, fd, F, He.glo_ok KX G (cD.fact 22 (f := .glo "found_bends") rfl)⟩
  have F_23 : ∃ f fd, FnP K "payment_at" (top 32) f fd ∧ mg "payment_at" = some (.ref f) := by
    obtain ⟨fd, F⟩ := cD.def_ 23 (d := dd_payment_at) rfl
    exact ⟨_, fd, F, He.glo_ok KX G (cD.fact 23 (f := .glo "payment_at") rfl)⟩
  have F_24 : ∃ f fd, FnP K "all_payments" (top 33) f fd ∧ mg "all_payments" = some (.ref f) := by
    obtain ⟨fd, F⟩ := cD.def_ 24 (d := dd_all_payments) rfl
    exact ⟨_, fd, F, He.glo_ok KX G (cD.fact 24 (f := .glo "all_payments") rfl)⟩
  have F_25 : ∃ f fd, FnP K "pay" (top 35) f fd ∧ mg "pay" = some (.ref f) := by
    obtain ⟨fd, F⟩ := cD.def_ 25 (d := dd_pay) rfl
    exact ⟨_, fd, F, He.glo_ok KX G (cD.fact 25 (f := .glo "pay") rfl)⟩
  have F_26 : ∃ f fd, FnP K "pay_rungs" (top 36) f fd ∧ mg "pay_rungs" = some (.ref f) := by
    obtain ⟨fd, F⟩ := cD.def_ 26 (d := dd_pay_rungs) rfl
    exact ⟨_, fd, F, He.glo_ok KX G (cD.fact 26 (f := .glo "pay_rungs") rfl)⟩
  have F_27 : ∃ f fd, FnP K "_law_town" (top 38) f fd ∧ mg "_law_town" = some (.ref f) := by
    obtain ⟨fd, F⟩ := cD.def_ 27 (d := dd__law_town) rfl
    exact ⟨_, fd, F, He.glo_ok KX G (cD.fact 27 (f := .glo "_law_town") rfl)⟩
  have F_28 : ∃ f fd, FnP K "_law_draw" (top 39) f fd ∧ mg "_law_draw" = some (.ref f) := by
    obtain ⟨fd, F⟩ := cD.def_ 28 (d := dd__law_draw) rfl
    exact ⟨_, fd, F, He.glo_ok KX G (cD.fact 28 (f := .glo "_law_draw") rfl)⟩
  have F_29 : ∃ f fd, FnP K "_law_pick" (top 40) f fd ∧ mg "_law_pick" = some (.ref f) := by
    obtain ⟨fd, F⟩ := cD.def_ 29 (d := dd__law_pick) rfl
    exact ⟨_, fd, F, He.glo_ok KX G (cD.fact 29 (f := .glo "_law_pick") rfl)⟩
  have F_30 : ∃ f fd, FnP K "_law_frac" (top 41) f fd ∧ mg "_law_frac" = some (.ref f) := by
    obtain ⟨fd, F⟩ := cD.def_ 30 (d := dd__law_frac) rfl
    exact ⟨_, fd, F, He.glo_ok KX G (cD.fact 30 (f := .glo "_law_frac") rfl)⟩
  have F_31 : ∃ f fd, FnP K "_law_plus" (top 42) f fd ∧ mg "_law_plus" = some (.ref f) := by
    obtain ⟨fd, F⟩ := cD.def_ 31 (d := dd__law_plus) rfl
    exact ⟨_, fd, F, He.glo_ok KX G (cD.fact 31 (f := .glo "_law_plus") rfl)⟩
  have F_32 : ∃ f fd, FnP K "_law_less" (top 43) f fd ∧ mg "_law_less" = some (.ref f) := by
    obtain ⟨fd, F⟩ := cD.def_ 32 (d := dd__law_less) rfl
    exact ⟨_, fd, F, He.glo_ok KX G (cD.fact 32 (f := .glo "_law_less") rfl)⟩
  have F_33 : ∃ f fd, FnP K "_law_times" (top 44) f fd ∧ mg "_law_times" = some (.ref f) := by
    obtain ⟨fd, F⟩ := cD.def_ 33 (d := dd__law_times) rfl
    exact ⟨_, fd, F, He.glo_ok KX G (cD.fact 33 (f := .glo "_law_times") rfl)⟩
  have F_34 : ∃ f fd, FnP K "_law_over" (top 45) f fd ∧ mg "_law_over" = some (.ref f) := by
    obtain ⟨fd, F⟩ := cD.def_ 34 (d := dd__law_over) rfl
    exact ⟨_, fd, F, He.glo_ok KX G (cD.fact 34 (f := .glo "_law_over") rfl)⟩
  have F_35 : ∃ f fd, FnP K "_law_below" (top 46) f fd ∧ mg "_law_below" = some (.ref f) := by
    obtain ⟨fd, F⟩ := cD.def_ 35 (d := dd__law_below) rfl
    exact ⟨_, fd, F, He.glo_ok KX G (cD.fact 35 (f := .glo "_law_below") rfl)⟩
  have F_36 : ∃ f fd, FnP K "_law_pairs" (top 47) f fd ∧ mg "_law_pairs" = some (.ref f) := by
    obtain ⟨fd, F⟩ := cD.def_ 36 (d := dd__law_pairs) rfl
    exact ⟨_, fd, F, He.glo_ok KX G (cD.fact 36 (f := .glo "_law_pairs") rfl)⟩
  have F_37 : ∃ f fd, FnP K "_law_rung" (top 48) f fd ∧ mg "_law_rung" = some (.ref f) := by
    obtain ⟨fd, F⟩ := cD.def_ 37 (d := dd__law_rung) rfl
    exact ⟨_, fd, F, He.glo_ok KX G (cD.fact 37 (f := .glo "_law_rung") rfl)⟩
  have F_38 : ∃ f fd, FnP K "_law_ladder" (top 49) f fd ∧ mg "_law_ladder" = some (.ref f) := by
    obtain ⟨fd, F⟩ := cD.def_ 38 (d := dd__law_ladder) rfl
    exact ⟨_, fd, F, He.glo_ok KX G (cD.fact 38 (f := .glo "_law_ladder") rfl)⟩
  have F_39 : ∃ f fd, FnP K "_law_amount" (top 50) f fd ∧ mg "_law_amount" = some (.ref f) := by
    obtain ⟨fd, F⟩ := cD.def_ 39 (d := dd__law_amount) rfl
    exact ⟨_, fd, F, He.glo_ok KX G (cD.fact 39 (f := .glo "_law_amount") rfl)⟩
  have F_40 : ∃ f fd, FnP K "_law_rung_pays" (top 51) f fd ∧ mg "_law_rung_pays" = some (.ref f) := by
    obtain ⟨fd, F⟩ := cD.def_ 40 (d := dd__law_rung_pays) rfl
    exact ⟨_, fd, F, He.glo_ok KX G (cD.fact 40 (f := .glo "_law_rung_pays") rfl)⟩
  have F_41 : ∃ f fd, FnP K "_law_pays" (top 52) f fd ∧ mg "_law_pays" = some (.ref f) := by
    obtain ⟨fd, F⟩ := cD.def_ 41 (d := dd__law_pays) rfl
    exact ⟨_, fd, F, He.glo_ok KX G (cD.fact 41 (f := .glo "_law_pays") rfl)⟩
  have F_42 : ∃ f fd, FnP K "_law_total" (top 53) f fd ∧ mg "_law_total" = some (.ref f) := by
    obtain ⟨fd, F⟩ := cD.def_ 42 (d := dd__law_total) rfl
    exact ⟨_, fd, F, He.glo_ok KX G (cD.fact 42 (f := .glo "_law_total") rfl)⟩
  have F_43 : ∃ f fd, FnP K "_law_sum" (top 54) f fd ∧ mg "_law_sum" = some (.ref f) := by
    obtain ⟨fd, F⟩ := cD.def_ 43 (d := dd__law_sum) rfl
    exact ⟨_, fd, F, He.glo_ok KX G (cD.fact 43 (f := .glo "_law_sum") rfl)⟩
  have F_44 : ∃ f fd, FnP K "law" (top 55) f fd ∧ mg "law" = some (.ref f) := by
    obtain ⟨fd, F⟩ := cD.def_ 44 (d := dd_law) rfl
    exact ⟨_, fd, F, He.glo_ok KX G (cD.fact 44 (f := .glo "law") rfl)⟩
  have g : Glob K mg := ⟨He.free_ok KX G (cD.fact 45 (f := .free "len") rfl), He.free_ok KX G (cD.fact 46 (f := .free "sum") rfl), He.free_ok KX G (cD.fact 47 (f := .free "all") rfl), He.free_ok KX G (cD.fact 48 (f := .free "any") rfl), He.free_ok KX G (cD.fact 49 (f := .free "tuple") rfl), He.free_ok KX G (cD.fact 50 (f := .free "list") rfl), He.free_ok KX G (cD.fact 51 (f := .free "abs") rfl), He.free_ok KX G (cD.fact 52 (f := .free "int") rfl), He.free_ok KX G (cD.fact 53 (f := .free "str") rfl), He.free_ok KX G (cD.fact 54 (f := .free "bool") rfl), He.free_ok KX G (cD.fact 55 (f := .free "max") rfl), He.free_ok KX G (cD.fact 56 (f := .free "min") rfl), He.free_ok KX G (cD.fact 57 (f := .free "dict") rfl), He.free_ok KX G (cD.fact 58 (f := .free "range") rfl), He.free_ok KX G (cD.fact 59 (f := .free "enumerate") rfl), He.free_ok KX G (cD.fact 60 (f := .free "zip") rfl), He.free_ok KX G (cD.fact 61 (f := .free "sorted") rfl), He.free_ok KX G (cD.fact 62 (f := .free "isinstance") rfl)⟩
  have gMOST : HasMost mg := He.int_ok KX G (cD.fact 63 (f := .int "MOST" 1000000) rfl)
  have gZERO : HasZero K mg := ⟨_, He.glo_ok KX G (cD.fact 64 (f := .glo "ZERO") rfl), exZ_ok c.more⟩
  obtain ⟨fl, fdl, Fl, hml⟩ := F_44
  have e := hfa.symm.trans hml
  cases e
  have b := FunD.bindsA (ps := ["script"]) Fl fun _ _ _ _ _ _ us hl => match us, hl with | [_], _ => rfl
  refine ⟨fdl, fun s v => b s [v] rfl, fun base _ _ => ?_⟩
  have c_is_between := cal_is_between (P := P) (w := w) (base := base) g F_0 
  have c_divisor := cal_divisor (P := P) (w := w) (base := base) g F_1 
  have c_is_less := cal_is_less (P := P) (w := w) (base := base) g F_7 
  have c_is_endless := cal_is_endless (P := P) (w := w) (base := base) g F_11 
  have c__law_town := cal__law_town (P := P) (w := w) (base := base) g F_27 
  have c__law_draw := cal__law_draw (P := P) (w := w) (base := base) g F_28 
  have c__law_frac := cal__law_frac (P := P) (w := w) (base := base) g F_30 
  have c__law_below := cal__law_below (P := P) (w := w) (base := base) g F_35 
  have c_fraction := cal_fraction (P := P) (w := w) (base := base) g F_2 c_divisor
  have c_lesser := cal_lesser (P := P) (w := w) (base := base) g F_8 c_is_less
  have c_are_pairs := cal_are_pairs (P := P) (w := w) (base := base) g F_9 c_is_between
  have c_is_amount := cal_is_amount (P := P) (w := w) (base := base) g F_14 gMOST c_is_between c_divisor
  have c__law_pick := cal__law_pick (P := P) (w := w) (base := base) g F_29 c__law_draw
  have c__law_plus := cal__law_plus (P := P) (w := w) (base := base) g F_31 c__law_frac
  have c__law_less := cal__law_less (P := P) (w := w) (base := base) g F_32 c__law_frac
  have c__law_times := cal__law_times (P := P) (w := w) (base := base) g F_33 c__law_frac
  have c__law_over := cal__law_over (P := P) (w := w) (base := base) g F_34 c__law_frac
  have c_plus := cal_plus (P := P) (w := w) (base := base) g F_3 c_fraction
  have c_product := cal_product (P := P) (w := w) (base := base) g F_5 c_fraction
  have c_quotient := cal_quotient (P := P) (w := w) (base := base) g F_6 c_fraction
  have c_is_rung := cal_is_rung (P := P) (w := w) (base := base) g F_10 c_are_pairs
  have c_check_amount := cal_check_amount (P := P) (w := w) (base := base) g F_15 c_is_amount
  have c_fixed_pieces := cal_fixed_pieces (P := P) (w := w) (base := base) g F_18 gZERO c_fraction
  have c__law_pairs := cal__law_pairs (P := P) (w := w) (base := base) g F_36 c__law_draw c__law_pick
  have c__law_amount := cal__law_amount (P := P) (w := w) (base := base) g F_39 c__law_pick c__law_frac c__law_draw
  have c__law_rung_pays := cal__law_rung_pays (P := P) (w := w) (base := base) g F_40 c__law_less c__law_over c__law_below c__law_times
  have c__law_sum := cal__law_sum (P := P) (w := w) (base := base) g F_43 c__law_plus
  have c_minus := cal_minus (P := P) (w := w) (base := base) g F_4 c_plus
  have c_is_ladder := cal_is_ladder (P := P) (w := w) (base := base) g F_12 c_is_endless c_is_between c_is_rung
  have c__law_rung := cal__law_rung (P := P) (w := w) (base := base) g F_37 c__law_pairs c__law_pick c__law_draw
  have c__law_pays := cal__law_pays (P := P) (w := w) (base := base) g F_41 c__law_rung_pays
  have c_check_ladder := cal_check_ladder (P := P) (w := w) (base := base) g F_13 c_is_ladder
  have c_share_pieces := cal_share_pieces (P := P) (w := w) (base := base) g F_19 gZERO c_fraction c_quotient c_lesser c_minus c_product
  have c_payment_at := cal_payment_at (P := P) (w := w) (base := base) g F_23 c_plus c_product c_minus c_is_less
  have c__law_ladder := cal__law_ladder (P := P) (w := w) (base := base) g F_38 c__law_draw c__law_rung
  have c__law_total := cal__law_total (P := P) (w := w) (base := base) g F_42 c__law_pays c__law_plus
  have c_reached := cal_reached (P := P) (w := w) (base := base) g F_16 c_check_ladder c_is_endless
  have c_needed_for := cal_needed_for (P := P) (w := w) (base := base) g F_17 c_check_ladder c_is_between c_is_endless
  have c_rung_pieces := cal_rung_pieces (P := P) (w := w) (base := base) g F_20 c_share_pieces c_fixed_pieces
  have c_pieces_of := cal_pieces_of (P := P) (w := w) (base := base) g F_21 c_is_endless c_rung_pieces
  have c_found_bends := cal_found_bends (P := P) (w := w) (base := base) g F_22 gZERO c_pieces_of c_plus c_product
  have c_pay_rungs := cal_pay_rungs (P := P) (w := w) (base := base) g F_26 gZERO c_check_ladder c_check_amount c_pieces_of c_minus c_lesser c_plus c_product
  have c_all_payments := cal_all_payments (P := P) (w := w) (base := base) g F_24 c_payment_at c_found_bends
  have c_pay := cal_pay (P := P) (w := w) (base := base) g F_25 c_check_ladder c_check_amount c_all_payments
  exact ok_law (P := P) (w := w) (base := base) g Fl c__law_town c__law_ladder c__law_amount c__law_pays c__law_sum c__law_below c_pay c_reached c_pay_rungs c__law_total c_needed_for
end Sx
open PySem PySem.W PySem.Calls PyProof.Rows
theorem PySem.Challenge.cw_payladders_k02_whole_payments_holds : PySem.Challenge.rw_payladders_k02_whole_payments.Holds := by
  w_on; o_law
  refine HandSHeadRun.head_any (r := OpenLaw.row PySem.Challenge.rw_payladders_k02_whole_payments) (q := view (OpenLaw.row PySem.Challenge.rw_payladders_k02_whole_payments).prog [55]) (H := Sx.hk) (ob := Sx.ob) (M := 4000) (loose := Sx.loose) (d := HandSHeadRun.topDef (OpenLaw.row PySem.Challenge.rw_payladders_k02_whole_payments).prog 55) (kwd := []) Sx.ob_eq
    (by kernel_rfl) (fun s => by kernel_rfl) Sx.run (by kernel_rfl) (by kernel_rfl) (by kernel_rfl) (by rfl) (by first | assumption | decide +kernel) (by decide +kernel) ⟨rfl, rfl, rfl, rfl, rfl, by decide +kernel⟩ ?hw ?hc
  case hw => w_witness2
  case hc =>
    refine L2.walk_ofE (l := PySem.Challenge.rw_payladders_k02_whole_payments) (n := 63) (k := 11) (x := "script") (CX := L2.CX0) rfl (by decide) (by kernel_rfl) ⟨rfl, by decide, by decide⟩ ?F (fun _ _ _ _ z => z)
    intro w mg fa h Y G hmg0
    obtain ⟨K, KX, c⟩ := Y
    have hmg : mg ("law" : PySem.Str) = some (.ref fa) := by
      have e : (HandSHeadRun.topDef (OpenLaw.row PySem.Challenge.rw_payladders_k02_whole_payments).prog 55).name = ("law" : PySem.Str) := by kernel_rfl
      rw [← e]
      exact hmg0
    obtain ⟨fd, hb, hF⟩ := Sx.facts (P := (PySem.Challenge.rw_payladders_k02_whole_payments).prog) (w := w) KX G hmg c
    exact ⟨K, fd, _, KX, hb, fun H a ns hl _ hS => Sx.law_end (Sx.law_true ns hl) hS, hF⟩
